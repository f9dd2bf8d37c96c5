import PyProof.Rows.All
import Wide.All
import OpenK.AllK
import Wide.FinOn
import HandS.ForMost
import HandS.ForExc
import HandS.TupMul
import HandS.TupAny
import HandS.Conv
import HandS.Strs
import HandS.Deep
import HandS.Style
import HandS.WideBits
import HandS.IsInst
import HandS.Text
import HandS.Iter
import HandS.HeadEnd
import HandS.HeadHook2
import HandS.EndBits
import HandS.SortInts
import HandS.More
import HandS.Head0
import HandS.Head1
import HandS.Head2
import HandS.Nested
import HandS.ExcInit
import KE.KExcSuper
import HandS.TryMany
import HandS.ExcField
import HandS.ExcIs
import HandS.ExcOwn
import HandS.List
import OpenK.KMeth
import KE.KOpsOwn
import KE.KTupSum
import KE.GoesEnum
import HandS.TupSets
import HandS.DictComp
import KE.OsArith
import KE.BitLaws
import KE.IntBitsLaws
import PySem.Challenge.RW_orderforms_k33_points_before_points
import HandS.HeadHook1
set_option Elab.async false
set_option linter.all false
set_option maxRecDepth 100000
set_option maxHeartbeats 0
namespace L2
open PySem PySem.Spec PyProof.Rows
def NewT (H : Hp) (xs : List V) (Q : VK) : Prop := ∀ p ob, H p = none → ob.dict = none → Q (.ref p) (upd H p (.frz ob (.tup xs)))
abbrev tupO (us : List Value) : Obj := { cls := .type "tuple", data := .seq us.toArray }
section
variable {X : Cx} {pins : List (Addr × Obj)} {σ : St} {H : Hp} {s : Shared} {xs ys : List V} {us : List Value} {Q : VK} {tk : Nat}
theorem lay_tup (I : Inv X pins σ H s) (z : xs.length ≤ sizeLine) (r : Vals xs us) (q : NewT H xs Q) : EP X pins σ Q (.ref s.heap.objs.size) { s with heap := s.heap.push (tupO us), toks := tk } := by
  have hn := I.hok.fresh (Nat.le_refl _)
  have ok : ObjOk X.prog X.w (upd H s.heap.objs.size (.frz (tupO us) (.tup xs))) (s.heap.push (tupO us)) s.heap.objs.size (.frz (tupO us) (.tup xs)) :=
    ⟨Heap.get?_push_size _ rfl, z, us, r, IsTup.new s.heap us.toArray⟩
  have J := I.laid (t' := tk) (fun c u => Heap.get?_push_of_some _) (Nat.le_refl _) ok
  exact ⟨V.ref s.heap.objs.size, _, J, rfl, q _ (tupO us) hn rfl⟩
def tTupN (t : TA) : TE := fun σ H Q => t σ H fun xs H1 => xs.length ≤ sizeLine ∧ NewT H1 xs Q
theorem pe_tupN {es : List Expr} {t : TA} {pos : Pos} {x1} (h : PA X es t) : PE X (.Tuple es x1 pos) (tTupN t) := by
  constructor
  intro pins s σ H Q I hq
  apply wpAny_Tuple_spliced
  refine thn (h.run pos pins s σ H _ I hq) ?_
  rintro us s1 ⟨xs, H1, I1, r, z, q⟩
  have hz : us.length ≤ sizeLine := by rw [← r.length]; exact z
  exact ⟨hz, lay_tup (tk := s1.toks) I1 z r q⟩
def rTupOf (K : PySem.W.Frag) : List V → Hp → VK → Prop := fun xs H Q => ∃ p ys, xs = [.ref p] ∧ ((SqL K H p ys ∧ NewT H ys Q) ∨ (SqT K H p ys ∧ Q (.ref p) H))
theorem call_tupleN : CallR X (.type "tuple") (rTupOf X.K) := by
  rintro pins s σ H xs us Q I r ⟨p, ys, rfl, h⟩
  obtain ⟨u, rfl, rx⟩ := vals1 r
  cases rx
  obtain ⟨hq, q⟩ | ⟨hq, q⟩ := h
  · obtain ⟨its, r', pl, hz⟩ := I.list hq
    have hs : its.toArray.size ≤ sizeLine := by rw [List.size_toArray, ← r'.length]; exact hz
    refine call_tuple_list pl.isList (fun h' kp => ?_) hs
    exact lay_tup (tk := s.toks) (s := { s with heap := h' }) (I.kept (t' := s.toks) kp) hz r' q
  · obtain ⟨its, r', pl, hz⟩ := I.tuple hq
    exact call_tuple_same pl ⟨V.ref p, H, I, rfl, q⟩
def rCatN (K : PySem.W.Frag) : R2 := fun x y H Q => ∃ a b xs ys, x = .ref a ∧ y = .ref b ∧ SqT K H a xs ∧ SqT K H b ys ∧ xs.length + ys.length ≤ sizeLine ∧
  (xs = [] → Q (.ref b) H) ∧ (xs ≠ [] → ys = [] → Q (.ref a) H) ∧ (xs ≠ [] → ys ≠ [] → NewT H (xs ++ ys) Q)
theorem op_catN : OpR X (binaryOp .Add) (rCatN X.K) := by
  rintro pins s σ H x y v u Q I rx ry ⟨a, b, xs, ys, rfl, rfl, ha, hb, hz, q0, q1, q2⟩
  cases rx
  cases ry
  obtain ⟨is, r1, p1, z1⟩ := I.tuple ha
  obtain ⟨js, r2, p2, z2⟩ := I.tuple hb
  have l1 := r1.length
  have l2 := r2.length
  cases hx : xs with
  | nil =>
    subst hx
    cases r1
    exact cat_tup0 p1 p2 ⟨V.ref b, H, I, rfl, q0 rfl⟩
  | cons x0 xs0 =>
    have hne : xs ≠ [] := by rw [hx]; simp
    have h0 : is ≠ [] := fun z => hne (r1.nil_iff.mp z)
    refine HT.cat_tup p1 p2 h0 (fun z => ?_) (fun z => ?_) (by omega)
    · exact ⟨V.ref a, H, I, rfl, q1 hne (r2.nil_iff.mp z)⟩
    · exact lay_tup (tk := s.toks) I (by rw [List.length_append]; exact hz) (r1.append r2) (q2 hne fun w => z (r2.nil_iff.mpr w))
def rSlN (K : PySem.W.Frag) : V → Option Int → Option Int → Hp → VK → Prop := fun x lo hi H Q => ∃ a xs, x = .ref a ∧ SqT K H a xs ∧
  (HT.sIx xs.length 0 lo = 0 ∧ HT.sIx xs.length xs.length hi = xs.length → Q (.ref a) H) ∧ (¬ (HT.sIx xs.length 0 lo = 0 ∧ HT.sIx xs.length xs.length hi = xs.length) → NewT H (cutV xs lo hi) Q)
theorem sl_tupN : SlR X (rSlN X.K) := by
  rintro pins s σ H x v vl vu lo hi sl Q I rx hs pl pu ⟨a, xs, rfl, hx, q1, q2⟩
  cases rx
  obtain ⟨is, r, ht, hz⟩ := I.tuple hx
  have hl : is.toArray.size = xs.length := by rw [List.size_toArray, ← r.length]
  refine ⟨"tuple", _, PyProof.Rows.slot_tuple_getitem.lookup, ht.typeIs, ?_⟩
  by_cases hw : HT.sIx xs.length 0 lo = 0 ∧ HT.sIx xs.length xs.length hi = xs.length
  · exact getItem_tuple_whole ht hs pl pu (by rw [hl]; exact hw) ⟨V.ref a, H, I, rfl, q1 hw⟩
  · refine HT.getItem_tuple_cut ht hs pl pu (fun z => hw (by rw [hl] at z; exact z)) ?_ (by omega)
    rw [hl]
    exact lay_tup (tk := s.toks) I (Nat.le_trans (cutV_length xs lo hi) hz) ((r.drop _).take _) (q2 hw)
end
def TupN (K : PySem.W.Frag) (H : Hp) (x : V) : Prop := ∃ p, x = .ref p ∧ ((∃ ob vs, H p = some (.frz ob (.tup vs)) ∧ ob.dict = none) ∨ ∃ o, K.lookup p = some o ∧ o.cls = .type "tuple" ∧ o.dict = none)
theorem tupN_is {X : Cx} {pins : List (Addr × Obj)} {σ : St} {H : Hp} {s : Shared} {x : V} {v : Value} (I : Inv X pins σ H s) (r : RelV x v) (ty : TupN X.K H x) :
    s.TypeIs v "tuple" ∧ ∀ a, v = .ref a → ∃ ob, s.heap.get? a = some ob ∧ ob.dict = none := by
  obtain ⟨p, rfl, ⟨ob, vs, hp, hd⟩ | ⟨ob, hk, hc, hd⟩⟩ := ty
  · cases r
    obtain ⟨e1, _, its, _, o2, e2, c2, _⟩ := I.hok p _ hp
    rw [e1] at e2
    cases e2
    exact ⟨⟨ob, e1, c2⟩, fun a e => by cases e; exact ⟨ob, e1, hd⟩⟩
  · cases r
    have e1 := I.kIn p ob hk
    exact ⟨⟨ob, e1, hc⟩, fun a e => by cases e; exact ⟨ob, e1, hd⟩⟩
def tBMN (K : PySem.W.Frag) (r : V → List V → Hp → VK → Prop) (to : TE) (t : TA) : TE := fun σ H Q => to σ H fun x H1 => TupN K H1 x ∧ t σ H1 fun xs H2 => r x xs H2 Q
theorem pe_bmN {X : Cx} {o e : Expr} {es : List Expr} {to : TE} {t : TA} {name : Str} {apos cpos : Pos} {id : String} {r : V → List V → Hp → VK → Prop} (pa : PlainAttrs "tuple") (slot : Slot "tuple" name id)
    (hty : typeOf (.builtin id) = pure (.type "method_descriptor")) (hm : MtR X id r) (ho : PE X o to) (ha : PA X (e :: es) t) (hbase : attributeBase o name X.env (eval o X.env) = eval o X.env := by rfl)
    (hfew : ((backTo cpos (starEach (e :: es) X.env)).all (fun x => !x.1) && (backToKw cpos (keywordEach [] X.env)).all (fun x => x.1.isSome)
      && decide ((e :: es).length + ([] : List Keyword).length + (if ([] : List Keyword).isEmpty then 0 else 1) < 30)) = true := by rfl)
    (hline : (apos.endLine == cpos.line) = true := by rfl) (hs : starEach (e :: es) X.env = (false, eval e X.env) :: starEach es X.env := by rfl) (hplain : (backTo cpos (starEach es X.env)).any (·.1) = false := by rfl) :
    PE X (.Call (.Attribute o name apos) (e :: es) [] cpos) (tBMN X.K r to t) := by
  constructor
  intro pins s σ H Q I h
  refine wpAny_Call_method_late hbase hfew hline rfl (thn (ho.run pins s σ H _ I h) ?_)
  rintro v s1 ⟨x, H1, I1, r1, ty, q1⟩
  have hN := tupN_is I1 r1 ty
  have hA := ha.run cpos pins s1 σ H1 _ I1 q1
  rw [hs] at hA
  refine ⟨"tuple", id, pa, slot, hty, hN.1, hN.2, ?_⟩
  rw [hs]
  have hstar : (false || (backTo cpos (starEach es X.env)).any (·.1)) = false := by rw [hplain]; rfl
  refine Calls.callWith_builtin hstar (Calls.evalArgs_plain (thn hA ?_))
  rintro us s2 ⟨vs, H2, I2, r2, q2⟩
  exact hm pins s2 σ H2 x vs v us Q I2 r1 r2 q2
def rIndexN (K : PySem.W.Frag) : V → List V → Hp → VK → Prop := fun x xs H Q => ∃ (a : Addr) (y : V) (d : PyData) (ds : List PyData) (j : Nat) (z : PyData), x = V.ref a ∧ xs = [y] ∧ Dp K H (V.ref a) (.tuple ds) ∧ Dp K H y d ∧
  SeqAt.shaped (.tuple ds) = true ∧ SeqAt.shaped d = true ∧ ds[j]? = some z ∧ PyData.eqv z d = true ∧ (∀ (m : Nat) (z' : PyData), m < j → ds[m]? = some z' → PyData.eqv z' d = false) ∧ Q (.int (j : Nat)) H
theorem mt_indexN {X : Cx} (hu : X.A.units + 65 < cLine) : MtR X "tuple.index" (rIndexN X.K) := by
  rintro pins s σ H x xs v us Q I rx rxs ⟨a, y, d, ds, j, z, rfl, rfl, hl, hy, sl, sd, hz, hzj, hno, q⟩
  obtain ⟨uy, rfl, ry⟩ := vals1 rxs
  obtain ⟨bs, r1⟩ := Dp.reads I d y uy hy ry
  have hcl : PyData.canLayAll0 ds = true := SeqAt.canLay_of_shaped sl
  have hroom : X.A.units + 1 + min (PyData.depthAll ds) d.depth < cLine := room_in_shaped sd hu
  cases rx
  cases hl with
  | tup hs ha =>
    obtain ⟨its, rv, ⟨⟨cls, dd, data, sls⟩, ho, hc, n, hdt⟩, hlen⟩ := I.tuple hs
    simp only at hc hdt
    subst hc hdt
    obtain ⟨as, h4⟩ := Dp.readsAll I ds _ its ha rv
    have hn : its.length = ds.length := SeqAt.ReadsAll.length ds its as h4
    have hmap : its.map (SeqAt.readOf s.heap) = ds := SeqAt.readsAll_map ds its as hcl h4
    have at_ : ∀ (m : Nat) (hm : m < its.toArray.size), ds[m]? = some (SeqAt.readOf s.heap its.toArray[m]) := by
      intro m hm
      have hml : m < its.length := by simpa using hm
      rw [← hmap, List.getElem?_map, List.getElem?_eq_getElem hml]
      simp
    have hj : j < its.toArray.size := by
      have := (List.getElem?_eq_some_iff.mp hz).1
      rw [List.size_toArray]; omega
    refine call_meets PySem.F.slot_tuple_index ⟨_, ho, rfl⟩ PySem.F.entry_tuple_index (PySem.F.args_tuple_index_2 _ _)
      (TI.tuple_indexAt a its.toArray n dd sls uy (fun u => PyData.eqv (SeqAt.readOf s.heap u) d) j hj ?_ ?_)
      ⟨ho, SeqAt.items_eqAt (vs := its.toArray) (show ReadsAll s.heap its.toArray.toList ds as from h4) r1 hcl (SeqAt.canLay_of_shaped sd) hroom, ?_⟩
    · have := at_ j hj
      rw [hz] at this
      rw [← Option.some.inj this]; exact hzj
    · intro m hm hmj
      exact hno m _ hmj (at_ m hm)
    · exact ⟨V.int j, H, I.tok _, ⟨_, rfl⟩, q⟩
end L2
namespace DL
open PySem L2
inductive At where
  | non | bl (b : Bool) | int (i : Int) | str (s : Str)
  deriving DecidableEq
def At.v : At → V
  | .non => V.non
  | .bl b => V.bl b
  | .int i => V.int i
  | .str s => V.str s
inductive Kd where
  | tup | lst | scr | dct (ks : List Key) | ins (C : Str) (fs : List Str)
  deriving DecidableEq
inductive D where
  | a (x : At)
  | n (k : Kd) (o : Bool) (xs : List D)
abbrev D.int (i : Int) : D := .a (.int i)
abbrev D.bl (b : Bool) : D := .a (.bl b)
abbrev D.str (s : Str) : D := .a (.str s)
abbrev D.non : D := .a .non
abbrev D.tup (xs : List D) : D := .n .tup false xs
abbrev D.lst (o : Bool) (xs : List D) : D := .n .lst o xs
abbrev D.scr (xs : List D) : D := .n .scr false xs
mutual
def frz : D → D
  | .a x => .a x
  | .n k _ xs => .n k false (frzL xs)
def frzL : List D → List D
  | [] => []
  | x :: xs => frz x :: frzL xs
end
mutual
def isF : D → Bool
  | .a _ => true
  | .n _ o xs => !o && isFL xs
def isFL : List D → Bool
  | [] => true
  | x :: xs => isF x && isFL xs
end
mutual
theorem frz_isF : ∀ d : D, isF d = true → frz d = d
  | .a _, _ => rfl
  | .n k o xs, h => by
    have h : (!o && isFL xs) = true := h
    rw [Bool.and_eq_true] at h
    have ho : o = false := by simpa using h.1
    subst ho
    show D.n k false (frzL xs) = _
    rw [frzL_isFL xs h.2]
theorem frzL_isFL : ∀ xs : List D, isFL xs = true → frzL xs = xs
  | [], _ => rfl
  | x :: xs, h => by
    have h : (isF x && isFL xs) = true := h
    rw [Bool.and_eq_true] at h
    show frz x :: frzL xs = _
    rw [frz_isF x h.1, frzL_isFL xs h.2]
end
abbrev FP := List Addr
abbrev ZS := Addr → Prop
def KT (K : PySem.W.Frag) (a : Addr) (xs : List V) : Prop :=
  ∃ (o : Obj) (its : Array Value) (n : Nat), K.lookup a = some o ∧ o.cls = .type "tuple" ∧ o.dict = none ∧ o.data = .seq its n ∧ its.size ≤ sizeLine ∧ Vals xs its.toList
def KLs (K : PySem.W.Frag) (a : Addr) (xs : List V) : Prop :=
  ∃ (o : Obj) (its : Array Value) (n : Nat), K.lookup a = some o ∧ o.cls = .type "list" ∧ o.dict = none ∧ o.data = .seq its n ∧ its.size ≤ sizeLine ∧ Vals xs its.toList
def TupK (K : PySem.W.Frag) (H : Hp) (Z : ZS) (p : Addr) (vs : List V) : Prop := (Z p ∧ ∃ ob, H p = some (.frz ob (.tup vs)) ∧ ob.dict = none) ∨ KT K p vs
theorem kt_sq {K : PySem.W.Frag} {H : Hp} {p : Addr} {vs : List V} (h : KT K p vs) : SqT K H p vs := by
  obtain ⟨o, its, n, a, b, _, c⟩ := h
  exact .inr ⟨o, its, n, a, b, c⟩
theorem tupK_sq {K : PySem.W.Frag} {H : Hp} {Z : ZS} {p : Addr} {vs : List V} (h : TupK K H Z p vs) : SqT K H p vs := by
  rcases h with ⟨_, ob, e, _⟩ | h
  · exact .inl (.inr ⟨ob, e⟩)
  · exact kt_sq h
theorem tupK_n {K : PySem.W.Frag} {H : Hp} {Z : ZS} {p : Addr} {vs : List V} (h : TupK K H Z p vs) : TupN K H (.ref p) := by
  rcases h with ⟨_, ob, e, d⟩ | ⟨o, _, _, a, b, c, _⟩
  · exact ⟨p, rfl, .inl ⟨ob, vs, e, d⟩⟩
  · exact ⟨p, rfl, .inr ⟨o, a, b, c⟩⟩
def Cont (K : PySem.W.Frag) (cA : Str → Addr) (H : Hp) (Z : ZS) (p : Addr) (vs : List V) : Kd → Bool → Prop
  | .tup, o => o = false ∧ TupK K H Z p vs
  | .scr, o => o = false ∧ ((Z p ∧ Rd H p (.lst vs)) ∨ KLs K p vs)
  | .lst, o => H p = some (.lst vs) ∧ (o = false → Z p)
  | .dct ks, o => H p = some (.dK (ks.zip vs)) ∧ ks.length = vs.length ∧ (o = false → Z p)
  | .ins C fs, o => (∃ dx, H p = some (.ins (cA C) dx (fs.zip vs))) ∧ (fs.length = vs.length ∧ Cls K (cA C) ∧ ∀ f ∈ fs, NoAttr K (cA C) f) ∧ (o = false → Z p)
section
variable (K : PySem.W.Frag) (cA : Str → Addr) (H : Hp) (Z : ZS)
mutual
def RepD : D → V → FP → Prop
  | .a x, v, fp => v = x.v ∧ fp = []
  | .n k o xs, v, fp => ∃ p vs g, v = .ref p ∧ RepL xs vs g ∧ Cont K cA H Z p vs k o ∧ fp = (if o then p :: g else []) ∧ (o = false → g = [])
def RepL : List D → List V → FP → Prop
  | [], vs, g => vs = [] ∧ g = []
  | x :: xs, vs, g => ∃ v vs' f1 f2, vs = v :: vs' ∧ RepD x v f1 ∧ RepL xs vs' f2 ∧ g = f1 ++ f2
end
end
section
variable {K : PySem.W.Frag} {cA : Str → Addr} {H H' : Hp} {Z Z' : ZS}
theorem rd_mono {p : Addr} {u : HO} (hk : ∀ o, H p = some o → H' p = some o) (h : Rd H p u) : Rd H' p u := by
  rcases h with h | ⟨o, h⟩
  · exact .inl (hk _ h)
  · exact .inr ⟨o, hk _ h⟩
theorem cont_mono {p : Addr} {vs : List V} {k : Kd} {o : Bool} (hz : ∀ a, Z a → Z' a) (hk : ∀ u, (Z p ∨ o = true) → H p = some u → H' p = some u) (h : Cont K cA H Z p vs k o) : Cont K cA H' Z' p vs k o := by
  have h1 : (o = false → Z p) → ∀ u, H p = some u → H' p = some u := fun z u e => by
    cases o with
    | true => exact hk u (.inr rfl) e
    | false => exact hk u (.inl (z rfl)) e
  cases k with
  | tup =>
    obtain ⟨ho, h⟩ := h
    refine ⟨ho, ?_⟩
    rcases h with ⟨z, ob, e, d⟩ | h
    · exact .inl ⟨hz _ z, ob, hk _ (.inl z) e, d⟩
    · exact .inr h
  | scr =>
    obtain ⟨ho, h⟩ := h
    refine ⟨ho, ?_⟩
    rcases h with ⟨z, r⟩ | h
    · exact .inl ⟨hz _ z, rd_mono (fun u e => hk u (.inl z) e) r⟩
    · exact .inr h
  | lst =>
    obtain ⟨e, z⟩ := h
    exact ⟨h1 z _ e, fun q => hz _ (z q)⟩
  | dct ks =>
    obtain ⟨e, l, z⟩ := h
    exact ⟨h1 z _ e, l, fun q => hz _ (z q)⟩
  | ins C fs =>
    obtain ⟨⟨dx, e⟩, l, z⟩ := h
    exact ⟨⟨dx, h1 z _ e⟩, l, fun q => hz _ (z q)⟩
mutual
theorem repD_mono : ∀ (d : D) {v : V} {fp : FP}, (∀ a, Z a → Z' a) → (∀ a o, (Z a ∨ a ∈ fp) → H a = some o → H' a = some o) → RepD K cA H Z d v fp → RepD K cA H' Z' d v fp
  | .a x, _, _, _, _, h => h
  | .n k o xs, v, fp, hz, hk, h => by
    obtain ⟨p, vs, g, e, hl, hc, ef, hg⟩ := h
    subst ef
    refine ⟨p, vs, g, e, repL_mono xs hz (fun a u m => hk a u ?_) hl, cont_mono hz (fun u m => hk p u ?_) hc, rfl, hg⟩
    · cases o with
      | true => exact m.imp id fun z => by simp [z]
      | false =>
        rw [hg rfl] at m
        exact m.imp id fun z => by simp at z
    · exact m.imp id fun z => by simp [z]
theorem repL_mono : ∀ (xs : List D) {vs : List V} {fp : FP}, (∀ a, Z a → Z' a) → (∀ a o, (Z a ∨ a ∈ fp) → H a = some o → H' a = some o) → RepL K cA H Z xs vs fp → RepL K cA H' Z' xs vs fp
  | [], _, _, _, _, h => h
  | x :: xs, vs, fp, hz, hk, h => by
    obtain ⟨v, vs', f1, f2, e, h1, h2, ef⟩ := h
    subst ef
    exact ⟨v, vs', f1, f2, e, repD_mono x hz (fun a u m => hk a u (m.imp id fun z => by simp [z])) h1, repL_mono xs hz (fun a u m => hk a u (m.imp id fun z => by simp [z])) h2, rfl⟩
end
mutual
theorem repD_trk : ∀ (d : D) {v : V} {fp : FP}, RepD K cA H Z d v fp → ∀ a ∈ fp, ∃ o, H a = some o
  | .a x, _, _, h, a, ha => by
    rw [h.2] at ha; cases ha
  | .n k o xs, v, fp, h, a, ha => by
    obtain ⟨p, vs, g, e, hl, hc, ef, hg⟩ := h
    subst ef
    cases o with
    | false => simp at ha
    | true =>
      rcases List.mem_cons.mp ha with rfl | ha
      · cases k with
        | tup => exact absurd hc.1 (by decide)
        | scr => exact absurd hc.1 (by decide)
        | lst => exact ⟨_, hc.1⟩
        | dct ks => exact ⟨_, hc.1⟩
        | ins C fs => exact let ⟨dx, e⟩ := hc.1; ⟨_, e⟩
      · exact repL_trk xs hl a ha
theorem repL_trk : ∀ (xs : List D) {vs : List V} {fp : FP}, RepL K cA H Z xs vs fp → ∀ a ∈ fp, ∃ o, H a = some o
  | [], _, _, h, a, ha => by
    rw [h.2] at ha; cases ha
  | x :: xs, vs, fp, h, a, ha => by
    obtain ⟨v, vs', f1, f2, e, h1, h2, ef⟩ := h
    subst ef
    rcases List.mem_append.mp ha with ha | ha
    · exact repD_trk x h1 a ha
    · exact repL_trk xs h2 a ha
end
mutual
theorem repD_isF : ∀ (d : D) {v : V} {fp : FP}, RepD K cA H Z d v fp → isF d = true → fp = []
  | .a x, _, _, h, _ => h.2
  | .n k o xs, v, fp, h, hf => by
    obtain ⟨p, vs, g, e, hl, hc, ef, hg⟩ := h
    have hf : (!o && isFL xs) = true := hf
    rw [Bool.and_eq_true] at hf
    have ho : o = false := by simpa using hf.1
    subst ho
    exact ef
theorem repL_isF : ∀ (xs : List D) {vs : List V} {fp : FP}, RepL K cA H Z xs vs fp → isFL xs = true → fp = []
  | [], _, _, h, _ => h.2
  | x :: xs, vs, fp, h, hf => by
    obtain ⟨v, vs', f1, f2, e, h1, h2, ef⟩ := h
    have hf : (isF x && isFL xs) = true := hf
    rw [Bool.and_eq_true] at hf
    rw [ef, repD_isF x h1 hf.1, repL_isF xs h2 hf.2]; rfl
end
mutual
theorem repD_frz : ∀ (d : D) {v : V} {fp : FP}, (∀ a, Z a → Z' a) → (∀ a ∈ fp, Z' a) → RepD K cA H Z d v fp → RepD K cA H Z' (frz d) v []
  | .a x, _, _, _, _, h => ⟨h.1, rfl⟩
  | .n k o xs, v, fp, hz, hf, h => by
    obtain ⟨p, vs, g, e, hl, hc, ef, hg⟩ := h
    subst ef
    have hgz : ∀ a ∈ g, Z' a := fun a ha => by
      cases o with
      | true => exact hf a (by simp [ha])
      | false => rw [hg rfl] at ha; cases ha
    have hp : o = true → Z' p := fun e => hf p (by simp [e])
    refine ⟨p, vs, [], e, repL_frz xs hz hgz hl, ?_, rfl, fun _ => rfl⟩
    have key : (o = false → Z p) → Z' p := fun z => by
      cases o with
      | true => exact hp rfl
      | false => exact hz _ (z rfl)
    cases k with
    | tup =>
      obtain ⟨_, h⟩ := hc
      refine ⟨rfl, ?_⟩
      rcases h with ⟨z, r⟩ | h
      · exact .inl ⟨hz _ z, r⟩
      · exact .inr h
    | scr =>
      obtain ⟨_, h⟩ := hc
      refine ⟨rfl, ?_⟩
      rcases h with ⟨z, r⟩ | h
      · exact .inl ⟨hz _ z, r⟩
      · exact .inr h
    | lst => exact ⟨hc.1, fun _ => key hc.2⟩
    | dct ks => exact ⟨hc.1, hc.2.1, fun _ => key hc.2.2⟩
    | ins C fs => exact ⟨hc.1, hc.2.1, fun _ => key hc.2.2⟩
theorem repL_frz : ∀ (xs : List D) {vs : List V} {fp : FP}, (∀ a, Z a → Z' a) → (∀ a ∈ fp, Z' a) → RepL K cA H Z xs vs fp → RepL K cA H Z' (frzL xs) vs []
  | [], _, _, _, _, h => ⟨h.1, rfl⟩
  | x :: xs, vs, fp, hz, hf, h => by
    obtain ⟨v, vs', f1, f2, e, h1, h2, ef⟩ := h
    subst ef
    exact ⟨v, vs', [], [], e, repD_frz x hz (fun a ha => hf a (by simp [ha])) h1, repL_frz xs hz (fun a ha => hf a (by simp [ha])) h2, rfl⟩
end
theorem repL_len : ∀ {xs : List D} {vs : List V} {fp : FP}, RepL K cA H Z xs vs fp → vs.length = xs.length
  | [], _, _, h => by rw [h.1]; rfl
  | x :: xs, vs, fp, h => by
    obtain ⟨v, vs', f1, f2, e, h1, h2, ef⟩ := h
    rw [e, List.length_cons, List.length_cons, repL_len h2]
theorem repL_get : ∀ {xs : List D} {vs : List V} {fp : FP} {i : Nat} {d : D}, RepL K cA H Z xs vs fp → xs[i]? = some d → ∃ v f0 f1 f2, vs[i]? = some v ∧ RepD K cA H Z d v f1 ∧ fp = f0 ++ f1 ++ f2
  | [], _, _, _, _, _, e => by simp at e
  | x :: xs, vs, fp, 0, d, h, e => by
    obtain ⟨v, vs', f1, f2, ev, h1, h2, ef⟩ := h
    simp at e; subst e
    exact ⟨v, [], f1, f2, by rw [ev]; rfl, h1, by simpa using ef⟩
  | x :: xs, vs, fp, i + 1, d, h, e => by
    obtain ⟨v, vs', f1, f2, ev, h1, h2, ef⟩ := h
    obtain ⟨w, g0, g1, g2, hw, hr, hg⟩ := repL_get (i := i) h2 (by simpa using e)
    refine ⟨w, f1 ++ g0, g1, g2, by rw [ev]; simpa using hw, hr, ?_⟩
    rw [ef, hg]; simp
theorem repL_append : ∀ {xs ys : List D} {vs ws : List V} {f g : FP}, RepL K cA H Z xs vs f → RepL K cA H Z ys ws g → RepL K cA H Z (xs ++ ys) (vs ++ ws) (f ++ g)
  | [], ys, vs, ws, f, g, h, k => by
    rw [h.1, h.2]; exact k
  | x :: xs, ys, vs, ws, f, g, h, k => by
    obtain ⟨v, vs', f1, f2, ev, h1, h2, ef⟩ := h
    exact ⟨v, vs' ++ ws, f1, f2 ++ g, by rw [ev]; rfl, h1, repL_append h2 k, by rw [ef]; simp⟩
theorem repL_one {d : D} {v : V} {fp : FP} (h : RepD K cA H Z d v fp) : RepL K cA H Z [d] [v] fp := ⟨v, [], fp, [], rfl, h, ⟨rfl, rfl⟩, by simp⟩
end
structure Wf (H : Hp) (Z : ZS) (L : FP) : Prop where
  nd : L.Nodup
  dj : ∀ a ∈ L, ¬ Z a
  tz : ∀ a, Z a → ∃ o, H a = some o
structure Fr (H : Hp) (Z : ZS) (L : FP) (H' : Hp) (Z' : ZS) (L' : FP) : Prop where
  keep : ∀ a o, H a = some o → a ∉ L → H' a = some o
  zm : ∀ a, Z a → Z' a
  zs : ∀ a, Z' a → Z a ∨ a ∈ L ∨ H a = none
  ls : ∀ a ∈ L', a ∈ L ∨ H a = none
section
variable {K : PySem.W.Frag} {cA : Str → Addr} {H H1 H2 : Hp} {Z Z1 Z2 : ZS} {L L1 L2 M fp : FP}
theorem Fr.refl : Fr H Z L H Z L := ⟨fun _ _ e _ => e, fun _ z => z, fun _ z => .inl z, fun _ h => .inl h⟩
theorem Fr.trans (a : Fr H Z L H1 Z1 L1) (b : Fr H1 Z1 L1 H2 Z2 L2) : Fr H Z L H2 Z2 L2 where
  keep := fun x o e h => b.keep x o (a.keep x o e h) fun m => by
    rcases a.ls x m with z | z
    · exact h z
    · rw [z] at e; cases e
  zm := fun x z => b.zm x (a.zm x z)
  zs := fun x z => by
    rcases b.zs x z with q | q | q
    · exact a.zs x q
    · exact .inr (a.ls x q)
    · by_cases hx : x ∈ L
      · exact .inr (.inl hx)
      · refine .inr (.inr ?_)
        cases e : H x with
        | none => rfl
        | some o => rw [a.keep x o e hx] at q; cases q
  ls := fun x m => by
    rcases b.ls x m with q | q
    · exact a.ls x q
    · by_cases hx : x ∈ L
      · exact .inl hx
      · refine .inr ?_
        cases e : H x with
        | none => rfl
        | some o => rw [a.keep x o e hx] at q; cases q
theorem Fr.less (a : Fr H Z L H1 Z1 L1) (h : ∀ x ∈ M, x ∈ L1) : Fr H Z L H1 Z1 M := ⟨a.keep, a.zm, a.zs, fun x m => a.ls x (h x m)⟩
theorem Fr.more (a : Fr H Z L H1 Z1 L1) (h : ∀ x ∈ L, x ∈ M) : Fr H Z M H1 Z1 L1 :=
  ⟨fun x o e n => a.keep x o e fun m => n (h x m), a.zm, fun x z => (a.zs x z).imp id (fun q => q.imp (h x) id), fun x m => (a.ls x m).imp (h x) id⟩
theorem Wf.less (w : Wf H Z L) (h : M.Sublist L) : Wf H Z M := ⟨w.nd.sublist h, fun a m => w.dj a (h.subset m), w.tz⟩
theorem Wf.perm (w : Wf H Z L) (h : L.Perm M) : Wf H Z M := ⟨h.nodup_iff.mp w.nd, fun a m => w.dj a (h.mem_iff.mpr m), w.tz⟩
theorem Wf.wait (w : Wf H1 Z1 (fp ++ L1)) (ht : ∀ a ∈ fp, ∃ o, H1 a = some o) (f : Fr H1 Z1 L1 H2 Z2 M) (w2 : Wf H2 Z2 M) : Wf H2 Z2 (fp ++ M) := by
  have nd := List.nodup_append.mp w.nd
  refine ⟨List.nodup_append.mpr ⟨nd.1, w2.nd, fun a ha b hb e => ?_⟩, fun a ha => ?_, w2.tz⟩
  · subst e
    rcases f.ls a hb with q | q
    · exact nd.2.2 a ha a q rfl
    · obtain ⟨o, e⟩ := ht a ha; rw [q] at e; cases e
  · rcases List.mem_append.mp ha with ha | ha
    · intro z
      rcases f.zs a z with q | q | q
      · exact w.dj a (by simp [ha]) q
      · exact nd.2.2 a ha a q rfl
      · obtain ⟨o, e⟩ := ht a ha; rw [q] at e; cases e
    · exact w2.dj a ha
theorem Fr.wait (w : Wf H1 Z1 (fp ++ L1)) (a : Fr H Z L H1 Z1 (fp ++ L1)) (f : Fr H1 Z1 L1 H2 Z2 M) : Fr H Z L H2 Z2 (fp ++ M) := by
  have b : Fr H1 Z1 (fp ++ L1) H2 Z2 (fp ++ M) := ⟨fun x o e n => f.keep x o e fun m => n (by simp [m]), f.zm, fun x z => (f.zs x z).imp id (fun q => q.imp (fun m => by simp [m]) id), fun x m => by
    rcases List.mem_append.mp m with m | m
    · exact .inl (by simp [m])
    · exact (f.ls x m).imp (fun m => by simp [m]) id⟩
  exact a.trans b
theorem repD_wait {d : D} {v : V} (w : Wf H1 Z1 (fp ++ L1)) (h : RepD K cA H1 Z1 d v fp) (f : Fr H1 Z1 L1 H2 Z2 M) : RepD K cA H2 Z2 d v fp := by
  have nd := List.nodup_append.mp w.nd
  refine repD_mono d f.zm (fun a o m e => f.keep a o e fun q => ?_) h
  rcases m with m | m
  · exact w.dj a (by simp [q]) m
  · exact nd.2.2 a m a q rfl
end
abbrev Env := List (Option D)
section
variable (K : PySem.W.Frag) (cA : Str → Addr) (H : Hp) (Z : ZS)
def RelL : Env → L2.St → FP → Prop
  | [], σ, fp => σ = [] ∧ fp = []
  | none :: ρ, σ, fp => ∃ x σ', σ = x :: σ' ∧ RelL ρ σ' fp
  | some d :: ρ, σ, fp => ∃ v σ' f1 f2, σ = some v :: σ' ∧ RepD K cA H Z d v f1 ∧ RelL ρ σ' f2 ∧ fp = f1 ++ f2
end
section
variable {K : PySem.W.Frag} {cA : Str → Addr} {H H' : Hp} {Z Z' : ZS}
theorem relL_mono : ∀ {ρ : Env} {σ : L2.St} {fp : FP}, (∀ a, Z a → Z' a) → (∀ a o, (Z a ∨ a ∈ fp) → H a = some o → H' a = some o) → RelL K cA H Z ρ σ fp → RelL K cA H' Z' ρ σ fp
  | [], _, _, _, _, h => h
  | none :: ρ, σ, fp, hz, hk, h => let ⟨x, σ', e, r⟩ := h; ⟨x, σ', e, relL_mono hz hk r⟩
  | some d :: ρ, σ, fp, hz, hk, h => by
    obtain ⟨v, σ', f1, f2, e, h1, h2, ef⟩ := h
    subst ef
    exact ⟨v, σ', f1, f2, e, repD_mono d hz (fun a u m => hk a u (m.imp id fun z => by simp [z])) h1, relL_mono hz (fun a u m => hk a u (m.imp id fun z => by simp [z])) h2, rfl⟩
theorem relL_len : ∀ {ρ : Env} {σ : L2.St} {fp : FP}, RelL K cA H Z ρ σ fp → σ.length = ρ.length
  | [], _, _, h => by rw [h.1]; rfl
  | none :: ρ, σ, fp, h => by
    obtain ⟨x, σ', e, r⟩ := h
    rw [e, List.length_cons, List.length_cons, relL_len r]
  | some d :: ρ, σ, fp, h => by
    obtain ⟨v, σ', f1, f2, e, h1, h2, ef⟩ := h
    rw [e, List.length_cons, List.length_cons, relL_len h2]
theorem relL_trk : ∀ {ρ : Env} {σ : L2.St} {fp : FP}, RelL K cA H Z ρ σ fp → ∀ a ∈ fp, ∃ o, H a = some o
  | [], _, _, h, a, ha => by rw [h.2] at ha; cases ha
  | none :: ρ, σ, fp, h, a, ha => by
    obtain ⟨x, σ', e, r⟩ := h
    exact relL_trk r a ha
  | some d :: ρ, σ, fp, h, a, ha => by
    obtain ⟨v, σ', f1, f2, e, h1, h2, ef⟩ := h
    subst ef
    rcases List.mem_append.mp ha with ha | ha
    · exact repD_trk d h1 a ha
    · exact relL_trk h2 a ha
theorem relL_at : ∀ {ρ : Env} {σ : L2.St} {fp : FP} {i : Nat} {d : D}, RelL K cA H Z ρ σ fp → ρ[i]? = some (some d) → ∃ v f0 f1 f2, σ[i]? = some (some v) ∧ RepD K cA H Z d v f1 ∧ fp = f0 ++ f1 ++ f2 ∧
    (∀ {H' : Hp} {Z' : ZS} {d' : D} {v' : V} {g : FP}, (∀ a, Z a → Z' a) → (∀ a o, (Z a ∨ a ∈ f0 ∨ a ∈ f2) → H a = some o → H' a = some o) → RepD K cA H' Z' d' v' g → RelL K cA H' Z' (ρ.set i (some d')) (σ.set i (some v')) (f0 ++ g ++ f2)) ∧
    (∀ {H' : Hp} {Z' : ZS}, (∀ a, Z a → Z' a) → (∀ a o, (Z a ∨ a ∈ f0 ∨ a ∈ f2) → H a = some o → H' a = some o) → RelL K cA H' Z' (ρ.set i none) σ (f0 ++ f2))
  | [], _, _, _, _, _, e => by simp at e
  | none :: ρ, σ, fp, 0, d, h, e => by simp at e
  | some d' :: ρ, σ, fp, 0, d, h, e => by
    simp at e; subst e
    obtain ⟨v, σ', f1, f2, es, h1, h2, ef⟩ := h
    subst es
    refine ⟨v, [], f1, f2, rfl, h1, by simpa using ef, fun {H' Z' d'' v' g} hz hk r => ⟨v', σ', g, f2, rfl, r, relL_mono hz (fun a o m => hk a o (m.imp id fun z => .inr z)) h2, by simp⟩, fun {H' Z'} hz hk => ?_⟩
    exact ⟨some v, σ', rfl, by simpa using relL_mono hz (fun a o m => hk a o (m.imp id fun z => .inr z)) h2⟩
  | none :: ρ, σ, fp, i + 1, d, h, e => by
    obtain ⟨x, σ', es, r⟩ := h
    subst es
    obtain ⟨v, f0, f1, f2, hv, hr, ef, put, cut⟩ := relL_at (i := i) r (by simpa using e)
    refine ⟨v, f0, f1, f2, by simpa using hv, hr, ef, fun {H' Z' d'' v' g} hz hk q => ⟨x, _, rfl, put hz hk q⟩, fun {H' Z'} hz hk => ⟨x, _, rfl, cut hz hk⟩⟩
  | some d0 :: ρ, σ, fp, i + 1, d, h, e => by
    obtain ⟨v0, σ', g1, g2, es, h1, h2, eg⟩ := h
    subst es
    obtain ⟨v, f0, f1, f2, hv, hr, ef, put, cut⟩ := relL_at (i := i) h2 (by simpa using e)
    refine ⟨v, g1 ++ f0, f1, f2, by simpa using hv, hr, by rw [eg, ef]; simp, fun {H' Z' d'' v' g} hz hk q => ⟨v0, _, g1, f0 ++ g ++ f2, rfl, ?_, put hz (fun a o m => hk a o (m.imp id fun z => z.imp (fun z => by simp [z]) id)) q, by simp⟩, fun {H' Z'} hz hk => ⟨v0, _, g1, f0 ++ f2, rfl, ?_, cut hz (fun a o m => hk a o (m.imp id fun z => z.imp (fun z => by simp [z]) id)), by simp⟩⟩
    · exact repD_mono d0 hz (fun a o m => hk a o (m.imp id fun z => .inl (by simp [z]))) h1
    · exact repD_mono d0 hz (fun a o m => hk a o (m.imp id fun z => .inl (by simp [z]))) h1
theorem relL_set : ∀ {ρ : Env} {σ : L2.St} {fp : FP} {i : Nat} {d : D} {v : V} {g : FP}, RelL K cA H Z ρ σ fp → i < ρ.length → RepD K cA H Z d v g → ∃ f0 f2, (f0 ++ f2).Sublist fp ∧ RelL K cA H Z (ρ.set i (some d)) (σ.set i (some v)) (f0 ++ g ++ f2)
  | [], _, _, _, _, _, _, _, e, _ => by simp at e
  | none :: ρ, σ, fp, 0, d, v, g, h, _, hr => by
    obtain ⟨x, σ', es, r⟩ := h
    subst es
    exact ⟨[], fp, by simp, v, σ', g, fp, rfl, hr, r, by simp⟩
  | some d' :: ρ, σ, fp, 0, d, v, g, h, _, hr => by
    obtain ⟨v', σ', f1, f2, es, h1, h2, ef⟩ := h
    subst es ef
    exact ⟨[], f2, by simp, v, σ', g, f2, rfl, hr, h2, by simp⟩
  | none :: ρ, σ, fp, i + 1, d, v, g, h, hi, hr => by
    obtain ⟨x, σ', es, r⟩ := h
    subst es
    obtain ⟨f0, f2, hs, q⟩ := relL_set (i := i) r (by simpa using hi) hr
    exact ⟨f0, f2, hs, x, _, rfl, q⟩
  | some d' :: ρ, σ, fp, i + 1, d, v, g, h, hi, hr => by
    obtain ⟨v', σ', f1, f2, es, h1, h2, ef⟩ := h
    subst es ef
    obtain ⟨f0, f2', hs, q⟩ := relL_set (i := i) h2 (by simpa using hi) hr
    refine ⟨f1 ++ f0, f2', ?_, v', _, f1, f0 ++ g ++ f2', rfl, h1, q, by simp⟩
    rw [List.append_assoc]
    exact (List.Sublist.refl f1).append hs
end
end DL
namespace DL
open PySem L2
structure Exn where
  c : Str
  fs : List (Str × At)
inductive Out (α : Type) where
  | ok (x : α) (ρ : Env) | ex (e : Exn) (ρ : Env) | st
inductive Fl where
  | nx (ρ : Env) | rt (d : D) (ρ : Env) | bk (ρ : Env) | ct (ρ : Env) | ex (e : Exn) (ρ : Env) | st
inductive FR where
  | rt (d : D) (io : Option D) | ex (e : Exn) (io : Option D) | st
def ExR (cA : Str → Addr) (H : Hp) (Z : ZS) (e : Exn) (cls : Value) (d : Option Addr) : Prop :=
  cls = .ref (cA e.c) ∧ ((e.fs = [] ∧ d = none) ∨ e.fs ≠ [] ∧ ∃ dd, d = some dd ∧ Z dd ∧ H dd = some (.xd (e.fs.map fun p => (p.1, p.2.v))))
section
variable (K : PySem.W.Frag) (cA : Str → Addr)
def PostE (W : WX) (σ : L2.St) (H : Hp) (Z : ZS) (L : FP) (Q : VK) : Out D → Prop
  | .ok d ρ' => ∀ v H' Z' L' fp, RelL K cA H' Z' ρ' σ L' → Wf H' Z' (fp ++ L') → RepD K cA H' Z' d v fp → Fr H Z L H' Z' (fp ++ L') → Q v H'
  | .ex e ρ' => ∀ cls d H' Z' L', RelL K cA H' Z' ρ' σ L' → Wf H' Z' L' → ExR cA H' Z' e cls d → Fr H Z L H' Z' L' → W cls d σ H'
  | .st => False
def PostP (W : WX) (σ : L2.St) (H : Hp) (Z : ZS) (L : FP) (Q : VK) : Out D → Prop
  | .ok d ρ' => ∀ v H' Z' L' fp, RelL K cA H' Z' ρ' σ L' → Wf H' Z' L' → RepD K cA H' Z' d v fp → Fr H Z L H' Z' L' → Q v H'
  | .ex e ρ' => ∀ cls d H' Z' L', RelL K cA H' Z' ρ' σ L' → Wf H' Z' L' → ExR cA H' Z' e cls d → Fr H Z L H' Z' L' → W cls d σ H'
  | .st => False
def PostT (W : WX) (σ : L2.St) (H : Hp) (Z : ZS) (L : FP) (Q : Bool → Hp → Prop) : Out Bool → Prop
  | .ok b ρ' => ∀ H' Z' L', RelL K cA H' Z' ρ' σ L' → Wf H' Z' L' → Fr H Z L H' Z' L' → Q b H'
  | .ex e ρ' => ∀ cls d H' Z' L', RelL K cA H' Z' ρ' σ L' → Wf H' Z' L' → ExR cA H' Z' e cls d → Fr H Z L H' Z' L' → W cls d σ H'
  | .st => False
inductive Ag where
  | d (d : D) | s (i : Nat)
def RepA (H : Hp) (Z : ZS) (σ : L2.St) : List Ag → List V → FP → Prop
  | [], vs, g => vs = [] ∧ g = []
  | .d x :: xs, vs, g => ∃ v vs' f1 f2, vs = v :: vs' ∧ RepD K cA H Z x v f1 ∧ RepA H Z σ xs vs' f2 ∧ g = f1 ++ f2
  | .s i :: xs, vs, g => ∃ v vs', vs = v :: vs' ∧ σ[i]? = some (some v) ∧ RepA H Z σ xs vs' g
def PostA (W : WX) (σ : L2.St) (H : Hp) (Z : ZS) (L : FP) (Q : List V → Hp → Prop) : Out (List Ag) → Prop
  | .ok ds ρ' => ∀ vs H' Z' L' fp, RelL K cA H' Z' ρ' σ L' → Wf H' Z' (fp ++ L') → RepA K cA H' Z' σ ds vs fp → Fr H Z L H' Z' (fp ++ L') → Q vs H'
  | .ex e ρ' => ∀ cls d H' Z' L', RelL K cA H' Z' ρ' σ L' → Wf H' Z' L' → ExR cA H' Z' e cls d → Fr H Z L H' Z' L' → W cls d σ H'
  | .st => False
def Pin (k : Option Nat) (σ σ' : L2.St) : Prop := ∀ i, k = some i → σ'[i]? = σ[i]?
def PostS (W : WX) (k : Option Nat) (σ : L2.St) (H : Hp) (Z : ZS) (L : FP) (D : Ends) : Fl → Prop
  | .nx ρ' => ∀ σ' H' Z' L', RelL K cA H' Z' ρ' σ' L' → Wf H' Z' L' → Fr H Z L H' Z' L' → Pin k σ σ' → D.nx σ' H'
  | .bk ρ' => ∀ σ' H' Z' L', RelL K cA H' Z' ρ' σ' L' → Wf H' Z' L' → Fr H Z L H' Z' L' → Pin k σ σ' → D.bk σ' H'
  | .ct ρ' => ∀ σ' H' Z' L', RelL K cA H' Z' ρ' σ' L' → Wf H' Z' L' → Fr H Z L H' Z' L' → Pin k σ σ' → D.ct σ' H'
  | .rt d ρ' => ∀ v σ' H' Z' L' fp, RelL K cA H' Z' ρ' σ' L' → Wf H' Z' (fp ++ L') → RepD K cA H' Z' d v fp → Fr H Z L H' Z' (fp ++ L') → Pin k σ σ' → D.rt v H'
  | .ex e ρ' => ∀ cls d σ' H' Z' L', RelL K cA H' Z' ρ' σ' L' → Wf H' Z' L' → ExR cA H' Z' e cls d → Fr H Z L H' Z' L' → Pin k σ σ' → W cls d σ' H'
  | .st => False
def TEof (W : WX) (f : Env → Out D) : TE := fun σ H Q => ∃ Z L ρ, RelL K cA H Z ρ σ L ∧ Wf H Z L ∧ PostE K cA W σ H Z L Q (f ρ)
def TPof (W : WX) (f : Env → Out D) : TE := fun σ H Q => ∃ Z L ρ, RelL K cA H Z ρ σ L ∧ Wf H Z L ∧ PostP K cA W σ H Z L Q (f ρ)
def TTof (W : WX) (f : Env → Out Bool) : TT := fun σ H Q => ∃ Z L ρ, RelL K cA H Z ρ σ L ∧ Wf H Z L ∧ PostT K cA W σ H Z L Q (f ρ)
def TAof (W : WX) (f : Env → Out (List Ag)) : TA := fun σ H Q => ∃ Z L ρ, RelL K cA H Z ρ σ L ∧ Wf H Z L ∧ PostA K cA W σ H Z L Q (f ρ)
def TSof (W : WX) (k : Option Nat) (f : Env → Fl) : TS := fun D σ H => ∃ Z L ρ, RelL K cA H Z ρ σ L ∧ Wf H Z L ∧ PostS K cA W k σ H Z L D (f ρ)
end
section
variable (X : Cx) (cA : Str → Addr) (W : WX)
def DE (f : Env → Out D) (e : Expr) : Prop := PE X e (TEof X.K cA W f)
def DP (f : Env → Out D) (e : Expr) : Prop := PE X e (TPof X.K cA W f)
def DT (f : Env → Out Bool) (e : Expr) : Prop := PT X e (TTof X.K cA W f)
def DW (f : Env → Out Bool) (e : Expr) : Prop := PW X e (TTof X.K cA W f)
def DA (f : Env → Out (List Ag)) (es : List Expr) : Prop := PA X es (TAof X.K cA W f)
def DS (k : Option Nat) (f : Env → Fl) (st : Stmt) : Prop := PS X st (TSof X.K cA W k f)
def DSs (k : Option Nat) (f : Env → Fl) (st : List Stmt) : Prop := PSs X st (TSof X.K cA W k f)
end
section
variable {X : Cx}
theorem PE.imp {e : Expr} {t t' : TE} (h : PE X e t) (i : ∀ σ H Q, t' σ H Q → t σ H Q) : PE X e t' := ⟨fun pins s σ H Q I w => h.run pins s σ H Q I (i σ H Q w)⟩
theorem PT.imp {e : Expr} {t t' : TT} (h : PT X e t) (i : ∀ σ H Q, t' σ H Q → t σ H Q) : PT X e t' := ⟨fun pins s σ H Q I w => h.run pins s σ H Q I (i σ H Q w)⟩
theorem PW.imp {e : Expr} {t t' : TT} (h : PW X e t) (i : ∀ σ H Q, t' σ H Q → t σ H Q) : PW X e t' := ⟨fun wh pins s σ H Q I w => h.run wh pins s σ H Q I (i σ H Q w)⟩
theorem PA.imp {e : List Expr} {t t' : TA} (h : PA X e t) (i : ∀ σ H Q, t' σ H Q → t σ H Q) : PA X e t' := ⟨fun pos pins s σ H Q I w => h.run pos pins s σ H Q I (i σ H Q w)⟩
theorem PS.imp {e : Stmt} {t t' : TS} (h : PS X e t) (i : ∀ D σ H, t' D σ H → t D σ H) : PS X e t' := ⟨fun pins s σ H D I w => h.run pins s σ H D I (i D σ H w)⟩
theorem PSs.imp {e : List Stmt} {t t' : TS} (h : PSs X e t) (i : ∀ D σ H, t' D σ H → t D σ H) : PSs X e t' := ⟨fun pins s σ H D I w => h.run pins s σ H D I (i D σ H w)⟩
end
section
variable {K : PySem.W.Frag} {cA : Str → Addr} {H H1 H2 : Hp} {Z Z1 Z2 : ZS} {L L1 L2 M fp : FP} {ρ : Env} {σ : _root_.L2.St}
theorem relL_wait (w : Wf H1 Z1 (fp ++ L1)) (h : RelL K cA H1 Z1 ρ σ fp) (f : Fr H1 Z1 L1 H2 Z2 M) : RelL K cA H2 Z2 ρ σ fp := by
  have nd := List.nodup_append.mp w.nd
  refine relL_mono f.zm (fun a o m e => f.keep a o e fun q => ?_) h
  rcases m with m | m
  · exact w.dj a (by simp [q]) m
  · exact nd.2.2 a m a q rfl
theorem Wf.swap (w : Wf H Z (L ++ M)) : Wf H Z (M ++ L) := w.perm (List.perm_append_comm)
theorem Fr.swap (f : Fr H Z L H1 Z1 (L1 ++ M)) : Fr H Z L H1 Z1 (M ++ L1) := f.less fun x m => by
  rcases List.mem_append.mp m with m | m <;> simp [m]
theorem Fr.swapl (f : Fr H Z (L ++ M) H1 Z1 L1) : Fr H Z (M ++ L) H1 Z1 L1 := f.more fun x m => by
  rcases List.mem_append.mp m with m | m <;> simp [m]
theorem hand (w : Wf H1 Z1 (fp ++ L1)) (r : RelL K cA H1 Z1 ρ σ L1) (f : Fr H1 Z1 fp H2 Z2 M) (w2 : Wf H2 Z2 M) : RelL K cA H2 Z2 ρ σ L1 ∧ Wf H2 Z2 (M ++ L1) ∧ Fr H1 Z1 (fp ++ L1) H2 Z2 (M ++ L1) := by
  have ws := w.swap
  refine ⟨relL_wait ws r f, (ws.wait (relL_trk r) f w2).swap, ?_⟩
  exact ((Fr.refl (H := H1) (Z := Z1) (L := L1 ++ fp)).wait ws f).swap.swapl
theorem hand0 (w : Wf H1 Z1 L1) (r : RelL K cA H1 Z1 ρ σ L1) (f : Fr H1 Z1 [] H2 Z2 M) (w2 : Wf H2 Z2 M) : RelL K cA H2 Z2 ρ σ L1 ∧ Wf H2 Z2 (M ++ L1) ∧ Fr H1 Z1 L1 H2 Z2 (M ++ L1) := hand (fp := []) w r f w2
def ZU (Z : ZS) (fp : FP) : ZS := fun a => Z a ∨ a ∈ fp
theorem Wf.freeze (w : Wf H Z (fp ++ L)) (ht : ∀ a ∈ fp, ∃ o, H a = some o) : Wf H (ZU Z fp) L := by
  have nd := List.nodup_append.mp w.nd
  refine ⟨nd.2.1, fun a ha z => ?_, fun a z => ?_⟩
  · rcases z with z | z
    · exact w.dj a (by simp [ha]) z
    · exact nd.2.2 a z a ha rfl
  · rcases z with z | z
    · exact w.tz a z
    · exact ht a z
theorem Fr.freeze (f : Fr H Z L H1 Z1 (fp ++ M)) : Fr H Z L H1 (ZU Z1 fp) M := by
  refine ⟨f.keep, fun a z => .inl (f.zm a z), fun a z => ?_, fun a m => f.ls a (by simp [m])⟩
  rcases z with z | z
  · exact f.zs a z
  · exact .inr (f.ls a (by simp [z]))
theorem zu_sub {fp : FP} : ∀ a, Z a → ZU Z fp a := fun _ z => .inl z
theorem relL_zu (h : RelL K cA H Z ρ σ L) : RelL K cA H (ZU Z fp) ρ σ L := relL_mono zu_sub (fun _ _ _ e => e) h
theorem repD_zu {d : D} {v : V} (h : RepD K cA H Z d v fp) : RepD K cA H (ZU Z fp) (frz d) v [] := repD_frz d zu_sub (fun a m => .inr m) h
theorem repL_zu {d : List D} {v : List V} (h : RepL K cA H Z d v fp) : RepL K cA H (ZU Z fp) (frzL d) v [] := repL_frz d zu_sub (fun a m => .inr m) h
theorem fr_new {p : Addr} {o : HO} (h : H p = none) : Fr H Z L (upd H p o) Z (p :: L) := by
  refine ⟨fun a u e _ => by rw [upd_ne (ne_of_none e h)]; exact e, fun _ z => z, fun _ z => .inl z, fun a m => ?_⟩
  rcases List.mem_cons.mp m with rfl | m
  · exact .inr h
  · exact .inl m
theorem wf_new {p : Addr} {o : HO} (w : Wf H Z L) (h : H p = none) (ht : ∀ a ∈ L, ∃ o, H a = some o) : Wf (upd H p o) Z (p :: L) := by
  refine ⟨List.nodup_cons.mpr ⟨fun m => ?_, w.nd⟩, fun a m => ?_, fun a z => ?_⟩
  · obtain ⟨u, e⟩ := ht p m; rw [h] at e; cases e
  · rcases List.mem_cons.mp m with rfl | m
    · intro z; obtain ⟨u, e⟩ := w.tz a z; rw [h] at e; cases e
    · exact w.dj a m
  · obtain ⟨u, e⟩ := w.tz a z
    exact ⟨u, by rw [upd_ne (ne_of_none e h)]; exact e⟩
theorem keep_new {p : Addr} {o : HO} (h : H p = none) : ∀ a u, H a = some u → upd H p o a = some u := fun a u e => by rw [upd_ne (ne_of_none e h)]; exact e
end
section
variable {X : Cx} {cA : Str → Addr} {W : WX} {k : Option Nat}
theorem de_of {e : Expr} {t : TE} {f : Env → Out D} (h : PE X e t) (i : ∀ σ H Q Z L ρ, RelL X.K cA H Z ρ σ L → Wf H Z L → PostE X.K cA W σ H Z L Q (f ρ) → t σ H Q) : DE X cA W f e :=
  PE.imp h fun σ H Q ⟨Z, L, ρ, r, w, p⟩ => i σ H Q Z L ρ r w p
theorem dp_of {e : Expr} {t : TE} {f : Env → Out D} (h : PE X e t) (i : ∀ σ H Q Z L ρ, RelL X.K cA H Z ρ σ L → Wf H Z L → PostP X.K cA W σ H Z L Q (f ρ) → t σ H Q) : DP X cA W f e :=
  PE.imp h fun σ H Q ⟨Z, L, ρ, r, w, p⟩ => i σ H Q Z L ρ r w p
theorem da_of {e : List Expr} {t : TA} {f : Env → Out (List Ag)} (h : PA X e t) (i : ∀ σ H Q Z L ρ, RelL X.K cA H Z ρ σ L → Wf H Z L → PostA X.K cA W σ H Z L Q (f ρ) → t σ H Q) : DA X cA W f e :=
  PA.imp h fun σ H Q ⟨Z, L, ρ, r, w, p⟩ => i σ H Q Z L ρ r w p
theorem ds_of {e : Stmt} {t : TS} {f : Env → Fl} (h : PS X e t) (i : ∀ D σ H Z L ρ, RelL X.K cA H Z ρ σ L → Wf H Z L → PostS X.K cA W k σ H Z L D (f ρ) → t D σ H) : DS X cA W k f e :=
  PS.imp h fun D σ H ⟨Z, L, ρ, r, w, p⟩ => i D σ H Z L ρ r w p
theorem dss_of {e : List Stmt} {t : TS} {f : Env → Fl} (h : PSs X e t) (i : ∀ D σ H Z L ρ, RelL X.K cA H Z ρ σ L → Wf H Z L → PostS X.K cA W k σ H Z L D (f ρ) → t D σ H) : DSs X cA W k f e :=
  PSs.imp h fun D σ H ⟨Z, L, ρ, r, w, p⟩ => i D σ H Z L ρ r w p
end
theorem exw {K : PySem.W.Frag} {cA : Str → Addr} {W : WX} {σ : L2.St} {H H1 : Hp} {Z Z1 : ZS} {L L1 : FP} {e : Exn} {ρ' : Env}
    (h : ∀ cls d H' Z' L', RelL K cA H' Z' ρ' σ L' → Wf H' Z' L' → ExR cA H' Z' e cls d → Fr H Z L H' Z' L' → W cls d σ H') (f : Fr H Z L H1 Z1 L1) :
    ∀ cls d H' Z' L', RelL K cA H' Z' ρ' σ L' → Wf H' Z' L' → ExR cA H' Z' e cls d → Fr H1 Z1 L1 H' Z' L' → W cls d σ H' := fun cls d H' Z' L' r w x g => h cls d H' Z' L' r w x (f.trans g)
section
variable {X : Cx} {cA : Str → Addr} {W : WX}
theorem postE_at {K : PySem.W.Frag} {σ : L2.St} {H : Hp} {Z : ZS} {L : FP} {ρ : Env} {Q : VK} {d : D} {v : V} (r : RelL K cA H Z ρ σ L) (w : Wf H Z L) (h : RepD K cA H Z d v []) (p : PostE K cA W σ H Z L Q (.ok d ρ)) : Q v H :=
  p v H Z L [] r w h Fr.refl
theorem repD_a {K : PySem.W.Frag} {H : Hp} {Z : ZS} {x : At} : RepD K cA H Z (.a x) x.v [] := ⟨rfl, rfl⟩
def dC (x : At) : Env → Out D := fun ρ => .ok (.a x) ρ
theorem de_int {i : Int} {j pos} : DE X cA W (dC (.int i)) (.Constant (.int i) j pos) := de_of pe_int fun σ H Q Z L ρ r w p => postE_at r w repD_a p
theorem de_bl {b : Bool} {j pos} : DE X cA W (dC (.bl b)) (.Constant (.bool b) j pos) := de_of pe_bl fun σ H Q Z L ρ r w p => postE_at r w repD_a p
theorem de_non {j pos} : DE X cA W (dC .non) (.Constant .none j pos) := de_of pe_non fun σ H Q Z L ρ r w p => postE_at r w repD_a p
theorem de_str {x : Str} {j pos} : DE X cA W (dC (.str x)) (.Constant (.str x) j pos) := de_of pe_str fun σ H Q Z L ρ r w p => postE_at r w repD_a p
theorem de_glob {x : Str} {a : At} {u : Value} {pos : Pos} (hg : Gl X x) (hm : X.mg x = some u) (r : RelV a.v u) (hd : (x == ("__debug__" : Str)) = false := by kernel_rfl) : DE X cA W (dC a) (.Name x pos) :=
  de_of (pe_glob hg hm r hd) fun σ H Q Z L ρ r w p => postE_at r w repD_a p
def dVar (i : Nat) : Env → Out D := fun ρ => match ρ[i]? with
  | some (some d) => if isF d = true then .ok d ρ else .st
  | _ => .st
def dPeek (i : Nat) : Env → Out D := fun ρ => match ρ[i]? with
  | some (some d) => .ok d ρ
  | _ => .st
theorem de_var {i : Nat} {e : Expr} (h : PE X e (tVar i)) : DE X cA W (dVar i) e := de_of h fun σ H Q Z L ρ r w p => by
  unfold dVar at p
  split at p
  · rename_i d hd
    split at p
    · rename_i hf
      obtain ⟨v, f0, f1, f2, hv, hr, ef, _, _⟩ := relL_at r hd
      have e1 := repD_isF d hr hf
      subst e1
      exact ⟨v, hv, postE_at r w hr p⟩
    · exact p.elim
  · exact p.elim
theorem dp_peek {i : Nat} {e : Expr} (h : PE X e (tVar i)) : DP X cA W (dPeek i) e := dp_of h fun σ H Q Z L ρ r w p => by
  unfold dPeek at p
  split at p
  · rename_i d hd
    obtain ⟨v, f0, f1, f2, hv, hr, ef, _, _⟩ := relL_at r hd
    exact ⟨v, hv, p v H Z L f1 r w hr Fr.refl⟩
  · exact p.elim
theorem dp_de {f : Env → Out D} {e : Expr} (h : DE X cA W f e) : DP X cA W f e := dp_of h fun σ H Q Z L ρ r w p => ⟨Z, L, ρ, r, w, by
  cases hf : f ρ with
  | ok d ρ' =>
    rw [hf] at p
    exact fun v H' Z' L' fp r' w' h' f' => p v H' Z' L' fp r' (w'.less (List.sublist_append_right _ _)) h' (f'.less fun x m => by simp [m])
  | ex e ρ' => rw [hf] at p; exact p
  | st => rw [hf] at p; exact p⟩
def dFz (f : Env → Out D) : Env → Out D := fun ρ => match f ρ with
  | .ok d ρ' => .ok (frz d) ρ'
  | .ex e ρ' => .ex e ρ'
  | .st => .st
theorem de_fz {f : Env → Out D} {e : Expr} (h : DE X cA W f e) : DE X cA W (dFz f) e := de_of h fun σ H Q Z L ρ r w p => ⟨Z, L, ρ, r, w, by
  unfold dFz at p
  cases hf : f ρ with
  | ok d ρ' =>
    rw [hf] at p
    exact fun v H' Z' L' fp r' w' h' f' => p v H' (ZU Z' fp) L' [] (relL_zu r') (w'.freeze (repD_trk d h')) (repD_zu h') f'.freeze
  | ex e ρ' => rw [hf] at p; exact p
  | st => rw [hf] at p; exact p⟩
structure VOp2 (K : PySem.W.Frag) (cA : Str → Addr) (r : R2) (g : D → D → Option D) : Prop where
  run : ∀ {d1 d2 d : D} {v1 v2 : V} {H : Hp} {Z : ZS} {f1 f2 : FP} {Q : VK}, RepD K cA H Z d1 v1 f1 → RepD K cA H Z d2 v2 f2 → Wf H Z (f1 ++ f2) → g d1 d2 = some d →
  (∀ v H' Z' fp, RepD K cA H' Z' d v fp → Wf H' Z' fp → Fr H Z (f1 ++ f2) H' Z' fp → Q v H') → r v1 v2 H Q
def dOp2 (g : D → D → Option D) (fa fb : Env → Out D) : Env → Out D := fun ρ => match fa ρ with
  | .ok d1 ρ1 => (match fb ρ1 with
    | .ok d2 ρ2 => (match g d1 d2 with
      | some d => .ok d ρ2
      | none => .st)
    | .ex e ρ2 => .ex e ρ2
    | .st => .st)
  | .ex e ρ1 => .ex e ρ1
  | .st => .st
theorem te_op2 {K : PySem.W.Frag} {r : R2} {g : D → D → Option D} (V : VOp2 K cA r g) {fa fb : Env → Out D} : ∀ σ H Q, TEof K cA W (dOp2 g fa fb) σ H Q → tOp r (TEof K cA W fa) (TEof K cA W fb) σ H Q := by
  rintro σ H Q ⟨Z, L, ρ, r, w, p⟩
  refine ⟨Z, L, ρ, r, w, ?_⟩
  unfold dOp2 at p
  cases ha : fa ρ with
  | st => rw [ha] at p; exact p
  | ex e ρ' => rw [ha] at p; exact p
  | ok d1 ρ1 =>
    rw [ha] at p
    intro v1 H1 Z1 L1 f1 r1 w1 h1 F1
    refine ⟨Z1, L1, ρ1, r1, w1.less (List.sublist_append_right _ _), ?_⟩
    dsimp only at p
    cases hb : fb ρ1 with
    | st => rw [hb] at p; exact p
    | ex e ρ' =>
      rw [hb] at p
      exact exw p (F1.less fun x m => by simp [m])
    | ok d2 ρ2 =>
      rw [hb] at p
      intro v2 H2 Z2 L2 f2 r2 w2 h2 F2
      dsimp only at p
      cases hg : g d1 d2 with
      | none => rw [hg] at p; exact p.elim
      | some d =>
        rw [hg] at p
        have w12 : Wf H2 Z2 (f1 ++ (f2 ++ L2)) := w1.wait (repD_trk d1 h1) F2 w2
        have F12 := Fr.wait w1 F1 F2
        rw [← List.append_assoc] at w12 F12
        refine V.run (repD_wait w1 h1 F2) h2 (w12.less (List.sublist_append_left _ _)) hg fun v H3 Z3 fp h3 w3 F3 => ?_
        obtain ⟨r3, w4, F4⟩ := hand w12 r2 F3 w3
        exact p v H3 Z3 L2 fp r3 w4 h3 (F12.trans F4)
theorem de_op {op : Operator} {r : R2} {g : D → D → Option D} {fa fb : Env → Out D} {a b : Expr} {pos : Pos} (ho : OpR X (binaryOp op) r) (V : VOp2 X.K cA r g) (ha : DE X cA W fa a) (hb : DE X cA W fb b) : DE X cA W (dOp2 g fa fb) (.BinOp a op b pos) :=
  PE.imp (pe_op ho ha hb) (te_op2 V)
theorem de_cmp {op : CmpOp} {r : R2} {g : D → D → Option D} {fa fb : Env → Out D} {a b : Expr} {pos : Pos} (ho : OpR X (compareOp op) r) (V : VOp2 X.K cA r g) (ha : DE X cA W fa a) (hb : DE X cA W fb b) (hm : behindInMarks op b = false := by exact nomark _) : DE X cA W (dOp2 g fa fb) (.Compare a [op] [b] pos) :=
  PE.imp (pe_cmpR ho ha hb hm) (te_op2 V)
structure VOpP (K : PySem.W.Frag) (cA : Str → Addr) (r : R2) (g : D → D → Option D) : Prop where
  run : ∀ {d1 d2 d : D} {v1 v2 : V} {H : Hp} {Z : ZS} {f1 f2 : FP} {Q : VK}, RepD K cA H Z d1 v1 f1 → RepD K cA H Z d2 v2 f2 → g d1 d2 = some d →
  (∀ x, d = .a x → Q x.v H) → r v1 v2 H Q
theorem te_opP {K : PySem.W.Frag} {r : R2} {g : D → D → Option D} (V : VOpP K cA r g) (hg : ∀ d1 d2 d, g d1 d2 = some d → ∃ x, d = .a x) {fa fb : Env → Out D} : ∀ σ H Q, TEof K cA W (dOp2 g fa fb) σ H Q → tOp r (TEof K cA W fa) (TPof K cA W fb) σ H Q := by
  rintro σ H Q ⟨Z, L, ρ, r, w, p⟩
  refine ⟨Z, L, ρ, r, w, ?_⟩
  unfold dOp2 at p
  cases ha : fa ρ with
  | st => rw [ha] at p; exact p
  | ex e ρ' => rw [ha] at p; exact p
  | ok d1 ρ1 =>
    rw [ha] at p
    intro v1 H1 Z1 L1 f1 r1 w1 h1 F1
    refine ⟨Z1, L1, ρ1, r1, w1.less (List.sublist_append_right _ _), ?_⟩
    dsimp only at p
    cases hb : fb ρ1 with
    | st => rw [hb] at p; exact p
    | ex e ρ' =>
      rw [hb] at p
      exact exw p (F1.less fun x m => by simp [m])
    | ok d2 ρ2 =>
      rw [hb] at p
      intro v2 H2 Z2 L2 f2 r2 w2 h2 F2
      dsimp only at p
      cases hg' : g d1 d2 with
      | none => rw [hg'] at p; exact p.elim
      | some d =>
        rw [hg'] at p
        obtain ⟨x, rfl⟩ := hg d1 d2 d hg'
        refine V.run (repD_wait w1 h1 F2) h2 hg' fun x' e => ?_
        cases e
        exact p x.v H2 Z2 L2 [] r2 w2 repD_a ((F1.less fun x m => by simp [m]).trans F2)
end
end DL
namespace DL
open PySem L2
abbrev cap : Nat := 1000000
theorem cap_le {n : Nat} (h : n ≤ cap) : n ≤ sizeLine := Nat.le_trans h (by rw [sizeLine_eq]; decide)
theorem cap_lt {n : Nat} (h : n < cap) : n < sizeLine := Nat.lt_of_lt_of_le h (by rw [sizeLine_eq]; decide)
theorem vop_at {K : PySem.W.Frag} {cA : Str → Addr} {r : R2} {g : D → D → Option D} (h : ∀ d1 d2 d, g d1 d2 = some d → ∃ x y z, d1 = .a x ∧ d2 = .a y ∧ d = .a z ∧ ∀ H (Q : VK), Q z.v H → r x.v y.v H Q) : VOp2 K cA r g := by
  refine ⟨@fun d1 d2 d v1 v2 H Z f1 f2 Q h1 h2 w hg q => ?_⟩
  obtain ⟨x, y, z, rfl, rfl, rfl, hr⟩ := h d1 d2 d hg
  obtain ⟨e1, e2⟩ := h1
  obtain ⟨e3, e4⟩ := h2
  subst e1 e2 e3 e4
  exact hr H Q (q _ H Z [] ⟨rfl, rfl⟩ ⟨List.nodup_nil, fun _ m => (nomatch m), w.tz⟩ Fr.refl)
def gOr (g g' : D → D → Option D) : D → D → Option D := fun a b => (g a b).or (g' a b)
theorem vop_or {K : PySem.W.Frag} {cA : Str → Addr} {r r' : R2} {g g' : D → D → Option D} (h : VOp2 K cA r g) (h' : VOp2 K cA r' g') : VOp2 K cA (fun x y H Q => r x y H Q ∨ r' x y H Q) (gOr g g') := by
  refine ⟨@fun d1 d2 d v1 v2 H Z f1 f2 Q h1 h2 w hg q => ?_⟩
  unfold gOr at hg
  cases e : g d1 d2 with
  | some c =>
    rw [e] at hg
    cases hg
    exact .inl (h.run h1 h2 w e q)
  | none =>
    rw [e] at hg
    exact .inr (h'.run h1 h2 w hg q)
def gII (c : Int → Int → Bool) (f : Int → Int → Int) : D → D → Option D
  | .a (.int i), .a (.int j) => if c i j = true then some (.int (f i j)) else none
  | _, _ => none
theorem vop_ii {K : PySem.W.Frag} {cA : Str → Addr} {C : Int → Int → Prop} {c : Int → Int → Bool} {f : Int → Int → Int} (h : ∀ i j, c i j = true → C i j) : VOp2 K cA (rI C fun i j => .int (f i j)) (gII c f) := vop_at fun d1 d2 d hg => by
  unfold gII at hg
  split at hg
  · rename_i i j
    split at hg
    · rename_i hc
      cases hg
      exact ⟨_, _, _, rfl, rfl, rfl, fun H Q q => ⟨i, j, rfl, rfl, h i j hc, q⟩⟩
    · cases hg
  · cases hg
theorem vop_ii0 {K : PySem.W.Frag} {cA : Str → Addr} {f : Int → Int → Int} : VOp2 K cA (rI0 fun i j => .int (f i j)) (gII (fun _ _ => true) f) := vop_at fun d1 d2 d hg => by
  unfold gII at hg
  split at hg
  · rename_i i j
    rw [if_pos rfl] at hg
    cases hg
    exact ⟨_, _, _, rfl, rfl, rfl, fun H Q q => ⟨i, j, rfl, rfl, q⟩⟩
  · cases hg
def gIB (f : Int → Int → Bool) : D → D → Option D
  | .a (.int i), .a (.int j) => some (.bl (f i j))
  | _, _ => none
theorem vop_ib {K : PySem.W.Frag} {cA : Str → Addr} {f : Int → Int → Bool} : VOp2 K cA (rI0 fun i j => .bl (f i j)) (gIB f) := vop_at fun d1 d2 d hg => by
  unfold gIB at hg
  split at hg
  · rename_i i j
    cases hg
    exact ⟨_, _, _, rfl, rfl, rfl, fun H Q q => ⟨i, j, rfl, rfl, q⟩⟩
  · cases hg
def gCatL : D → D → Option D
  | .n .lst _ xs, .n .lst _ ys => if isFL xs = true ∧ isFL ys = true ∧ xs.length + ys.length ≤ cap then some (.lst true (xs ++ ys)) else none
  | _, _ => none
section
variable {K : PySem.W.Frag} {cA : Str → Addr} {H : Hp} {Z : ZS}
theorem rep_lst {o : Bool} {xs : List D} {v : V} {fp : FP} (h : RepD K cA H Z (.n .lst o xs) v fp) : ∃ p vs g, v = .ref p ∧ H p = some (.lst vs) ∧ RepL K cA H Z xs vs g ∧ fp = (if o then p :: g else []) ∧ (o = false → Z p ∧ g = []) := by
  obtain ⟨p, vs, g, e, hl, hc, ef, hg⟩ := h
  exact ⟨p, vs, g, e, hc.1, hl, ef, fun q => ⟨hc.2 q, hg q⟩⟩
theorem rep_tup {o : Bool} {xs : List D} {v : V} {fp : FP} (h : RepD K cA H Z (.n .tup o xs) v fp) : ∃ p vs, v = .ref p ∧ SqT K H p vs ∧ RepL K cA H Z xs vs [] ∧ fp = [] ∧ o = false ∧ TupK K H Z p vs := by
  obtain ⟨p, vs, g, e, hl, ⟨ho, hc⟩, ef, hg⟩ := h
  subst ho
  have := hg rfl
  subst this
  exact ⟨p, vs, e, tupK_sq hc, hl, ef, rfl, hc⟩
theorem rep_scr {o : Bool} {xs : List D} {v : V} {fp : FP} (h : RepD K cA H Z (.n .scr o xs) v fp) : ∃ p vs, v = .ref p ∧ SqL K H p vs ∧ RepL K cA H Z xs vs [] ∧ fp = [] ∧ o = false := by
  obtain ⟨p, vs, g, e, hl, ⟨ho, hc⟩, ef, hg⟩ := h
  subst ho
  have := hg rfl
  subst this
  refine ⟨p, vs, e, ?_, hl, ef, rfl⟩
  rcases hc with ⟨_, r⟩ | r
  · exact .inl r
  · exact .inr r
theorem repL_fl {xs : List D} {vs : List V} {g : FP} (h : RepL K cA H Z xs vs g) (hf : isFL xs = true) : RepL K cA H Z xs vs [] := by
  have e := repL_isF xs h hf
  subst e
  exact h
theorem new_lst {xs : List D} {vs : List V} {p : Addr} (w : Wf H Z []) (h : RepL K cA H Z xs vs []) (hp : H p = none) :
    RepD K cA (upd H p (.lst vs)) Z (.lst true xs) (.ref p) [p] ∧ Wf (upd H p (.lst vs)) Z [p] ∧ Fr H Z [] (upd H p (.lst vs)) Z [p] := by
  refine ⟨⟨p, vs, [], rfl, repL_mono xs (fun _ z => z) (fun a o _ e => keep_new hp a o e) h, ⟨upd_same, fun q => nomatch q⟩, rfl, fun q => nomatch q⟩, wf_new w hp (fun a m => nomatch m), fr_new hp⟩
theorem new_tup {xs : List D} {vs : List V} {p : Addr} {ob : Obj} (w : Wf H Z []) (h : RepL K cA H Z xs vs []) (hp : H p = none) (ho : ob.dict = none) :
    RepD K cA (upd H p (.frz ob (.tup vs))) (ZU Z [p]) (.tup xs) (.ref p) [] ∧ Wf (upd H p (.frz ob (.tup vs))) (ZU Z [p]) [] ∧ Fr H Z [] (upd H p (.frz ob (.tup vs))) (ZU Z [p]) [] := by
  refine ⟨⟨p, vs, [], rfl, repL_mono xs zu_sub (fun a o _ e => keep_new hp a o e) h, ⟨rfl, .inl ⟨.inr (by simp), ob, upd_same, ho⟩⟩, rfl, fun _ => rfl⟩, ?_, ?_⟩
  · exact (wf_new w hp (fun a m => nomatch m) : Wf (upd H p (.frz ob (.tup vs))) Z ([p] ++ [])).freeze fun a m => ⟨.frz ob (.tup vs), by
      have : a = p := by simpa using m
      subst this; exact upd_same⟩
  · exact Fr.freeze (fp := [p]) (M := []) (fr_new hp)
theorem wf0 {L : FP} (w : Wf H Z L) : Wf H Z [] := w.less (List.nil_sublist _)
theorem fr0 {L : FP} {H' : Hp} {Z' : ZS} {fp : FP} (f : Fr H Z [] H' Z' fp) : Fr H Z L H' Z' fp := f.more fun _ m => nomatch m
end
theorem vop_catL {K : PySem.W.Frag} {cA : Str → Addr} : VOp2 K cA rCat gCatL := by
  refine ⟨@fun d1 d2 d v1 v2 H Z f1 f2 Q h1 h2 w hg q => ?_⟩
  unfold gCatL at hg
  split at hg
  · rename_i o1 xs o2 ys
    split at hg
    · rename_i hc
      cases hg
      obtain ⟨p, vs, g, rfl, e1, r1, _, _⟩ := rep_lst h1
      obtain ⟨p', ws, g', rfl, e2, r2, _, _⟩ := rep_lst h2
      have l1 := repL_len r1
      have l2 := repL_len r2
      refine ⟨p, p', vs, ws, rfl, rfl, e1, e2, cap_le (by omega), fun p0 hp => ?_⟩
      obtain ⟨a, b, c⟩ := new_lst (wf0 w) (repL_append (repL_fl r1 hc.1) (repL_fl r2 hc.2.1)) hp
      exact q _ _ _ _ a b (fr0 c)
    · cases hg
  · cases hg
def gCatT : D → D → Option D
  | .n .tup _ xs, .n .tup _ ys => if xs.length + ys.length ≤ cap then some (.tup (xs ++ ys)) else none
  | _, _ => none
theorem vop_catT {K : PySem.W.Frag} {cA : Str → Addr} : VOp2 K cA (rCatN K) gCatT := by
  refine ⟨@fun d1 d2 d v1 v2 H Z f1 f2 Q h1 h2 w hg q => ?_⟩
  unfold gCatT at hg
  split at hg
  · rename_i o1 xs o2 ys
    split at hg
    · rename_i hc
      cases hg
      obtain ⟨p, vs, rfl, e1, r1, ef1, _, c1⟩ := rep_tup h1
      obtain ⟨p', ws, rfl, e2, r2, ef2, _, c2⟩ := rep_tup h2
      have l1 := repL_len r1
      have l2 := repL_len r2
      have rr := repL_append r1 r2
      refine ⟨p, p', vs, ws, rfl, rfl, e1, e2, cap_le (by omega), fun e => ?_, fun n1 e => ?_, fun n1 n2 p0 ob hp ho => ?_⟩
      · subst e
        exact q _ H Z [] ⟨p', ws, [], rfl, rr, ⟨rfl, c2⟩, rfl, fun _ => rfl⟩ (wf0 w) (Fr.refl.less fun _ m => nomatch m)
      · subst e
        exact q _ H Z [] ⟨p, vs, [], rfl, by simpa using rr, ⟨rfl, c1⟩, rfl, fun _ => rfl⟩ (wf0 w) (Fr.refl.less fun _ m => nomatch m)
      · obtain ⟨a, b, c⟩ := new_tup (wf0 w) rr hp ho
        exact q _ _ _ _ a b (fr0 c)
    · cases hg
  · cases hg
def gCatS : D → D → Option D
  | .a (.str x), .a (.str y) => if x.length + y.length ≤ cap then some (.str (x ++ y)) else none
  | _, _ => none
theorem vop_catS {K : PySem.W.Frag} {cA : Str → Addr} : VOp2 K cA (fun x y H Q => ∃ i j, x = .str i ∧ y = .str j ∧ i.length + j.length ≤ sizeLine ∧ Q (.str (i ++ j)) H) gCatS := vop_at fun d1 d2 d hg => by
  unfold gCatS at hg
  split at hg
  · rename_i x y
    split at hg
    · rename_i hc
      cases hg
      exact ⟨_, _, _, rfl, rfl, rfl, fun H Q q => ⟨x, y, rfl, rfl, cap_le hc, q⟩⟩
    · cases hg
  · cases hg
abbrev gAddI : D → D → Option D := gII (fun _ _ => true) fun i j => i + j
abbrev gSub : D → D → Option D := gII (fun _ _ => true) fun i j => i - j
def gAdd : D → D → Option D := gOr gAddI (gOr gCatL (gOr gCatT gCatS))
def gRep : D → D → Option D
  | .n .lst _ xs, .a (.int k) => if isFL xs = true ∧ -1000000 ≤ k ∧ k ≤ 1000000 ∧ xs.length * k.toNat ≤ cap then some (.lst true (List.replicate k.toNat xs).flatten) else none
  | _, _ => none
theorem repL_rep {K : PySem.W.Frag} {cA : Str → Addr} {H : Hp} {Z : ZS} {xs : List D} {vs : List V} (h : RepL K cA H Z xs vs []) : ∀ n : Nat, RepL K cA H Z (List.replicate n xs).flatten (List.replicate n vs).flatten []
  | 0 => ⟨rfl, rfl⟩
  | n + 1 => by
    rw [List.replicate_succ, List.replicate_succ, List.flatten_cons, List.flatten_cons]
    exact repL_append h (repL_rep h n)
theorem vop_rep {K : PySem.W.Frag} {cA : Str → Addr} : VOp2 K cA rRep gRep := by
  refine ⟨@fun d1 d2 d v1 v2 H Z f1 f2 Q h1 h2 w hg q => ?_⟩
  unfold gRep at hg
  split at hg
  · rename_i o1 xs k
    split at hg
    · rename_i hc
      cases hg
      obtain ⟨p, vs, g, rfl, e1, r1, _, _⟩ := rep_lst h1
      obtain ⟨e3, e4⟩ := h2
      subst e3
      have l1 := repL_len r1
      refine ⟨p, k, vs, rfl, rfl, e1, by omega, by omega, cap_le (by rw [l1]; exact hc.2.2.2), fun p0 hp => ?_⟩
      obtain ⟨a, b, c⟩ := new_lst (wf0 w) (repL_rep (repL_fl r1 hc.1) k.toNat) hp
      exact q _ _ _ _ a b (fr0 c)
    · cases hg
  · cases hg
def mulOk (i j : Int) : Bool := decide ((Builtin.Int.intBits i : Int) + (Builtin.Int.intBits j : Int) ≤ 134217728)
abbrev gMulI : D → D → Option D := gII mulOk fun i j => i * j
def gMul : D → D → Option D := gOr gMulI gRep
def divOk (i j : Int) : Bool := decide (0 < j) && (decide (j < 1073741824) || decide (j.natAbs.log2 < 9000))
abbrev gFdiv : D → D → Option D := gII divOk fun i j => i / j
abbrev gMod : D → D → Option D := gII (fun _ j => decide (0 < j)) fun i j => i % j
def powOk (i j : Int) : Bool := decide (0 ≤ j) && (decide (j ≤ 1000000) && decide (i.natAbs < 2 ^ 64))
abbrev gPow : D → D → Option D := gII powOk fun i j => i ^ j.toNat
abbrev gShl : D → D → Option D := gII powOk fun i j => i * 2 ^ j.toNat
abbrev gShr : D → D → Option D := gII (fun _ j => decide (0 ≤ j)) fun i j => i / 2 ^ j.toNat
abbrev gAnd : D → D → Option D := gII (fun _ _ => true) fun i j => Builtin.bitAnd i j
abbrev gOrB : D → D → Option D := gII (fun _ _ => true) fun i j => Builtin.bitOr i j
section
variable {X : Cx} {cA : Str → Addr} {W : WX} {fa fb : Env → Out D} {a b : Expr} {pos : Pos}
theorem divOk_w {i j : Int} (h : divOk i j = true) : CDivW i j := by
  unfold divOk at h
  simp only [Bool.and_eq_true, Bool.or_eq_true, decide_eq_true_eq] at h
  refine ⟨h.1, ?_⟩
  rcases h.2 with h2 | h2
  · have h3 : j.natAbs < 2 ^ 30 := by have := h.1; omega
    exact Nat.lt_of_lt_of_le (PySem.Flt.log2_lt_of (by decide) h3) (by decide)
  · exact h2
theorem mulOk_c {i j : Int} (h : mulOk i j = true) : CMulX i j := by
  unfold mulOk at h
  unfold CMulX
  exact of_decide_eq_true h
theorem powOk_c {i j : Int} (h : powOk i j = true) : CPow i j := by
  unfold powOk at h
  simp only [Bool.and_eq_true, decide_eq_true_eq] at h
  exact ⟨h.1, h.2.1, h.2.2⟩
theorem de_add (ha : DE X cA W fa a) (hb : DE X cA W fb b) : DE X cA W (dOp2 gAdd fa fb) (.BinOp a .Add b pos) :=
  de_op (op_add.or (op_cat.or (op_catN.or op_add_str))) (vop_or vop_ii0 (vop_or vop_catL (vop_or vop_catT vop_catS))) ha hb
theorem de_mul (ha : DE X cA W fa a) (hb : DE X cA W fb b) : DE X cA W (dOp2 gMul fa fb) (.BinOp a .Mult b pos) :=
  de_op (op_mulX.or op_rep) (vop_or (vop_ii fun i j h => mulOk_c h) vop_rep) ha hb
theorem de_fdiv (ha : DE X cA W fa a) (hb : DE X cA W fb b) : DE X cA W (dOp2 gFdiv fa fb) (.BinOp a .FloorDiv b pos) := de_op op_fdivW (vop_ii fun i j h => divOk_w h) ha hb
theorem de_mod (ha : DE X cA W fa a) (hb : DE X cA W fb b) : DE X cA W (dOp2 gMod fa fb) (.BinOp a .Mod b pos) := de_op op_mod (vop_ii fun i j h => of_decide_eq_true h) ha hb
theorem de_pow (ha : DE X cA W fa a) (hb : DE X cA W fb b) : DE X cA W (dOp2 gPow fa fb) (.BinOp a .Pow b pos) := de_op op_pow (vop_ii fun i j h => powOk_c h) ha hb
theorem de_shl (ha : DE X cA W fa a) (hb : DE X cA W fb b) : DE X cA W (dOp2 gShl fa fb) (.BinOp a .LShift b pos) := de_op op_shl (vop_ii fun i j h => powOk_c h) ha hb
theorem de_shr (ha : DE X cA W fa a) (hb : DE X cA W fb b) : DE X cA W (dOp2 gShr fa fb) (.BinOp a .RShift b pos) := de_op op_shr (vop_ii fun i j h => of_decide_eq_true h) ha hb
theorem de_and (ha : DE X cA W fa a) (hb : DE X cA W fb b) : DE X cA W (dOp2 gAnd fa fb) (.BinOp a .BitAnd b pos) := de_op op_and vop_ii0 ha hb
theorem de_or (ha : DE X cA W fa a) (hb : DE X cA W fb b) : DE X cA W (dOp2 gOrB fa fb) (.BinOp a .BitOr b pos) := de_op op_or vop_ii0 ha hb
end
structure VU (K : PySem.W.Frag) (cA : Str → Addr) (r : V → Hp → VK → Prop) (g : D → Option D) : Prop where
  run : ∀ {d1 d : D} {v1 : V} {H : Hp} {Z : ZS} {f1 : FP} {Q : VK}, RepD K cA H Z d1 v1 f1 → Wf H Z [] → g d1 = some d →
  (∀ v H' Z' fp, RepD K cA H' Z' d v fp → Wf H' Z' fp → Fr H Z [] H' Z' fp → Q v H') → r v1 H Q
def dU (g : D → Option D) (fa : Env → Out D) : Env → Out D := fun ρ => match fa ρ with
  | .ok d1 ρ1 => (match g d1 with
    | some d => .ok d ρ1
    | none => .st)
  | .ex e ρ1 => .ex e ρ1
  | .st => .st
section
variable {X : Cx} {cA : Str → Addr} {W : WX} {fa fb : Env → Out D} {a b : Expr} {pos : Pos}
theorem te_un {K : PySem.W.Frag} {r : V → Hp → VK → Prop} {g : D → Option D} (V : VU K cA r g) : ∀ σ H Q, TEof K cA W (dU g fa) σ H Q → tUn r (TPof K cA W fa) σ H Q := by
  rintro σ H Q ⟨Z, L, ρ, r, w, p⟩
  refine ⟨Z, L, ρ, r, w, ?_⟩
  unfold dU at p
  cases ha : fa ρ with
  | st => rw [ha] at p; exact p
  | ex e ρ' => rw [ha] at p; exact p
  | ok d1 ρ1 =>
    rw [ha] at p
    intro v1 H1 Z1 L1 f1 r1 w1 h1 F1
    dsimp only at p
    cases hg : g d1 with
    | none => rw [hg] at p; exact p.elim
    | some d =>
      rw [hg] at p
      refine V.run h1 (wf0 w1) hg fun v H2 Z2 fp h2 w2 F2 => ?_
      obtain ⟨r3, w3, F3⟩ := hand0 w1 r1 F2 w2
      exact p v H2 Z2 L1 fp r3 w3 h2 (F1.trans F3)
theorem vu_at {K : PySem.W.Frag} {r : V → Hp → VK → Prop} {g : D → Option D} (h : ∀ d1 d, g d1 = some d → ∃ x z, d1 = .a x ∧ d = .a z ∧ ∀ H (Q : VK), Q z.v H → r x.v H Q) : VU K cA r g := by
  refine ⟨@fun d1 d v1 H Z f1 Q h1 w hg q => ?_⟩
  obtain ⟨x, z, rfl, rfl, hr⟩ := h d1 d hg
  obtain ⟨e1, e2⟩ := h1
  subst e1 e2
  exact hr H Q (q _ H Z [] ⟨rfl, rfl⟩ w Fr.refl)
theorem de_un {op : UnaryOp} {r : V → Hp → VK → Prop} {g : D → Option D} (ho : UnR X (unaryOp op) r) (V : VU X.K cA r g) (ha : DP X cA W fa a) : DE X cA W (dU g fa) (.UnaryOp op a pos) := PE.imp (pe_un ho ha) (te_un V)
def gI (f : Int → Int) : D → Option D
  | .a (.int i) => some (.int (f i))
  | _ => none
theorem vu_i {K : PySem.W.Frag} {f : Int → Int} : VU K cA (rU fun i => .int (f i)) (gI f) := vu_at fun d1 d hg => by
  unfold gI at hg
  split at hg
  · rename_i i
    cases hg
    exact ⟨_, _, rfl, rfl, fun H Q q => ⟨i, rfl, q⟩⟩
  · cases hg
abbrev gNeg : D → Option D := gI fun i => -i
abbrev gInv : D → Option D := gI Builtin.bitNot
theorem de_neg (ha : DE X cA W fa a) : DE X cA W (dU gNeg fa) (.UnaryOp .USub a pos) := de_un un_neg vu_i (dp_de ha)
theorem de_inv (ha : DE X cA W fa a) : DE X cA W (dU gInv fa) (.UnaryOp .Invert a pos) := de_un un_inv vu_i (dp_de ha)
def VC1 (K : PySem.W.Frag) (cA : Str → Addr) (r : List V → Hp → VK → Prop) (g : D → Option D) : Prop := VU K cA (fun v H Q => r [v] H Q) g
theorem te_c1 {K : PySem.W.Frag} {r : List V → Hp → VK → Prop} {g : D → Option D} (V : VC1 K cA r g) : ∀ σ H Q, TEof K cA W (dU g fa) σ H Q → tCB r (tCons (TPof K cA W fa) tNil) σ H Q := te_un (r := fun v H Q => r [v] H Q) V
theorem de_callB {id : String} {x : Str} {p : Pos} {r : List V → Hp → VK → Prop} {g : D → Option D} (hc : CallR X (.builtin id) r) (V : VC1 X.K cA r g) (hg : Gl X x) (hm : X.mg x = none) (hv : bootBuiltins x = some (.builtin id)) (ha : DP X cA W fa a)
    (hn : x ≠ "__name__" := by decide +kernel) (hdb : (x == ("__debug__" : Str)) = false := by kernel_rfl)
    (he : starEach [a] X.env = [(false, eval a X.env)] := by kernel_rfl) (hs : starEach [a] X.env = (false, eval a X.env) :: starEach [] X.env := by kernel_rfl) : DE X cA W (dU g fa) (.Call (.Name x p) [a] [] pos) :=
  PE.imp (pe_callB hc hg hm hv (pa_cons ha pa_nil hs) hn hdb hs rfl) (te_c1 V)
theorem de_callTy {T : String} {x : Str} {p : Pos} {r : List V → Hp → VK → Prop} {g : D → Option D} (hc : CallR X (.type T) r) (V : VC1 X.K cA r g) (hg : Gl X x) (hm : X.mg x = none) (hv : bootBuiltins x = some (.type T)) (ha : DP X cA W fa a)
    (hn : x ≠ "__name__" := by decide +kernel) (hdb : (x == ("__debug__" : Str)) = false := by kernel_rfl)
    (hs : starEach [a] X.env = (false, eval a X.env) :: starEach [] X.env := by kernel_rfl) : DE X cA W (dU g fa) (.Call (.Name x p) [a] [] pos) :=
  PE.imp (pe_callTy hc hg hm hv (pa_cons ha pa_nil hs) hn hdb hs rfl) (te_c1 V)
def gLen : D → Option D
  | .n .scr _ xs => some (.int xs.length)
  | .n .lst _ xs => some (.int xs.length)
  | .n .tup _ xs => some (.int xs.length)
  | .a (.str s) => if s.length ≤ cap then some (.int s.length) else none
  | _ => none
theorem vc_len {K : PySem.W.Frag} : VC1 K cA (fun xs H Q => ∃ x n, xs = [x] ∧ LenV K x H n ∧ Q (.int n) H) gLen := by
  refine ⟨@fun d1 d v1 H Z f1 Q h1 w hg q => ?_⟩
  unfold gLen at hg
  split at hg
  · rename_i o xs
    cases hg
    obtain ⟨p, vs, rfl, e1, r1, _⟩ := rep_scr h1
    exact ⟨_, xs.length, rfl, .inl ⟨vs, e1, (repL_len r1).symm⟩, q _ H Z [] ⟨rfl, rfl⟩ w Fr.refl⟩
  · rename_i o xs
    cases hg
    obtain ⟨p, vs, g, rfl, e1, r1, _, _⟩ := rep_lst h1
    exact ⟨_, xs.length, rfl, .inl ⟨vs, SqL.of e1, (repL_len r1).symm⟩, q _ H Z [] ⟨rfl, rfl⟩ w Fr.refl⟩
  · rename_i o xs
    cases hg
    obtain ⟨p, vs, rfl, e1, r1, _⟩ := rep_tup h1
    exact ⟨_, xs.length, rfl, .inr ⟨vs, e1, (repL_len r1).symm⟩, q _ H Z [] ⟨rfl, rfl⟩ w Fr.refl⟩
  · rename_i s
    split at hg
    · rename_i hs
      cases hg
      obtain ⟨e, _⟩ := h1
      subst e
      exact ⟨_, s.length, rfl, ⟨cap_le hs, rfl⟩, q _ H Z [] ⟨rfl, rfl⟩ w Fr.refl⟩
    · cases hg
  · cases hg
theorem de_len {x : Str} {p : Pos} (hg : Gl X x) (hm : X.mg x = none) (hv : bootBuiltins x = some (.builtin "len")) (ha : DP X cA W fa a) (hn : x ≠ "__name__" := by decide +kernel) (hdb : (x == ("__debug__" : Str)) = false := by kernel_rfl)
    (hs : starEach [a] X.env = (false, eval a X.env) :: starEach [] X.env := by kernel_rfl) : DE X cA W (dU gLen fa) (.Call (.Name x p) [a] [] pos) := de_callB call_len vc_len hg hm hv ha hn hdb hs hs
def gTuple : D → Option D
  | .n .lst _ xs => if isFL xs = true then some (.tup xs) else none
  | .n .tup _ xs => some (.tup xs)
  | _ => none
def gList : D → Option D
  | .n .lst _ xs => if isFL xs = true then some (.lst true xs) else none
  | .n .tup _ xs => some (.lst true xs)
  | _ => none
theorem vc_tuple {K : PySem.W.Frag} : VC1 K cA (rTupOf K) gTuple := by
  refine ⟨@fun d1 d v1 H Z f1 Q h1 w hg q => ?_⟩
  unfold gTuple at hg
  split at hg
  · rename_i o xs
    split at hg
    · rename_i hf
      cases hg
      obtain ⟨p, vs, g, rfl, e1, r1, _, _⟩ := rep_lst h1
      refine ⟨p, vs, rfl, .inl ⟨SqL.of e1, fun l ob hl ho => ?_⟩⟩
      obtain ⟨a, b, c⟩ := new_tup w (repL_fl r1 hf) hl ho
      exact q _ _ _ _ a b c
    · cases hg
  · rename_i o xs
    cases hg
    obtain ⟨p, vs, rfl, e1, r1, _, ho, c1⟩ := rep_tup h1
    exact ⟨p, vs, rfl, .inr ⟨e1, q _ H Z [] ⟨p, vs, [], rfl, r1, ⟨rfl, c1⟩, rfl, fun _ => rfl⟩ w Fr.refl⟩⟩
  · cases hg
theorem vc_list {K : PySem.W.Frag} : VC1 K cA (fun xs H Q => ∃ p ys, xs = [.ref p] ∧ (SqL K H p ys ∨ SqT K H p ys) ∧ ∀ l, H l = none → Q (.ref l) (upd H l (.lst ys))) gList := by
  refine ⟨@fun d1 d v1 H Z f1 Q h1 w hg q => ?_⟩
  unfold gList at hg
  split at hg
  · rename_i o xs
    split at hg
    · rename_i hf
      cases hg
      obtain ⟨p, vs, g, rfl, e1, r1, _, _⟩ := rep_lst h1
      refine ⟨p, vs, rfl, .inl (SqL.of e1), fun l hl => ?_⟩
      obtain ⟨a, b, c⟩ := new_lst w (repL_fl r1 hf) hl
      exact q _ _ _ _ a b c
    · cases hg
  · rename_i o xs
    cases hg
    obtain ⟨p, vs, rfl, e1, r1, _⟩ := rep_tup h1
    refine ⟨p, vs, rfl, .inr e1, fun l hl => ?_⟩
    obtain ⟨a, b, c⟩ := new_lst w r1 hl
    exact q _ _ _ _ a b c
  · cases hg
theorem de_tuple {x : Str} {p : Pos} (hg : Gl X x) (hm : X.mg x = none) (hv : bootBuiltins x = some (.type "tuple")) (ha : DP X cA W fa a) (hn : x ≠ "__name__" := by decide +kernel) (hdb : (x == ("__debug__" : Str)) = false := by kernel_rfl)
    (hs : starEach [a] X.env = (false, eval a X.env) :: starEach [] X.env := by kernel_rfl) : DE X cA W (dU gTuple fa) (.Call (.Name x p) [a] [] pos) := de_callTy call_tupleN vc_tuple hg hm hv ha hn hdb hs
theorem de_list {x : Str} {p : Pos} (hg : Gl X x) (hm : X.mg x = none) (hv : bootBuiltins x = some (.type "list")) (ha : DP X cA W fa a) (hn : x ≠ "__name__" := by decide +kernel) (hdb : (x == ("__debug__" : Str)) = false := by kernel_rfl)
    (hs : starEach [a] X.env = (false, eval a X.env) :: starEach [] X.env := by kernel_rfl) : DE X cA W (dU gList fa) (.Call (.Name x p) [a] [] pos) := de_callTy call_list_of vc_list hg hm hv ha hn hdb hs
def gInt : D → Option D
  | .a (.int i) => some (.int i)
  | .a (.bl k) => some (.int (if k = true then 1 else 0))
  | _ => none
abbrev gAbs : D → Option D := gI fun i => if i < 0 then -i else i
theorem vc_abs {K : PySem.W.Frag} : VC1 K cA (fun xs H Q => ∃ i, xs = [.int i] ∧ Q (.int (if i < 0 then -i else i)) H) gAbs := vu_at fun d1 d hg => by
  unfold gAbs gI at hg
  split at hg
  · rename_i i
    cases hg
    exact ⟨_, _, rfl, rfl, fun H Q q => ⟨i, rfl, q⟩⟩
  · cases hg
theorem de_abs {x : Str} {p : Pos} (hg : Gl X x) (hm : X.mg x = none) (hv : bootBuiltins x = some (.builtin "abs")) (ha : DP X cA W fa a) (hn : x ≠ "__name__" := by decide +kernel) (hdb : (x == ("__debug__" : Str)) = false := by kernel_rfl)
    (hs : starEach [a] X.env = (false, eval a X.env) :: starEach [] X.env := by kernel_rfl) : DE X cA W (dU gAbs fa) (.Call (.Name x p) [a] [] pos) := de_callB call_abs vc_abs hg hm hv ha hn hdb hs hs
end
end DL
namespace DL
open PySem L2
def strG (s : Str) : Bool := s.cps.all (· < 0x110000)
mutual
def pD (n : Nat) : D → Bool
  | .a (.str s) => strG s
  | .a _ => true
  | .n .tup _ xs => (match n with | 0 => false | m + 1 => pDL m xs)
  | .n .lst _ xs => (match n with | 0 => false | m + 1 => pDL m xs)
  | _ => false
def pDL (n : Nat) : List D → Bool
  | [] => true
  | x :: xs => pD n x && pDL n xs
end
def eqA : At → At → Bool
  | .non, .non => true
  | .bl a, .bl b => a == b
  | .bl a, .int b => (if a = true then 1 else 0) == b
  | .int a, .bl b => a == (if b = true then 1 else 0)
  | .int a, .int b => a == b
  | .str a, .str b => a == b
  | _, _ => false
mutual
def eqD : D → D → Bool
  | .a x, .a y => eqA x y
  | .n .tup _ xs, .n .tup _ ys => eqDL xs ys
  | .n .lst _ xs, .n .lst _ ys => eqDL xs ys
  | _, _ => false
def eqDL : List D → List D → Bool
  | [], [] => true
  | x :: xs, y :: ys => eqD x y && eqDL xs ys
  | _, _ => false
end
mutual
def pyD : D → PyData
  | .a .non => .none
  | .a (.bl b) => .bool b
  | .a (.int i) => .int i
  | .a (.str s) => .str s
  | .n .tup _ xs => .tuple (pyL xs)
  | .n .lst _ xs => .list (pyL xs)
  | _ => .none
def pyL : List D → List PyData
  | [] => []
  | x :: xs => pyD x :: pyL xs
end
mutual
theorem lay_pD : ∀ (n : Nat) (d : D), pD n d = true → PyData.canLay0 (pyD d) = true ∧ PyData.depth (pyD d) ≤ n
  | n, .a .non, _ => ⟨by simp [pyD, PyData.canLay0], by simp [pyD, PyData.depth]⟩
  | n, .a (.bl b), _ => ⟨by simp [pyD, PyData.canLay0], by simp [pyD, PyData.depth]⟩
  | n, .a (.int i), _ => ⟨by simp [pyD, PyData.canLay0], by simp [pyD, PyData.depth]⟩
  | n, .a (.str s), h => ⟨by
      have h : strG s = true := by simpa [pD] using h
      simp only [pyD, PyData.canLay0]
      exact h, by simp [pyD, PyData.depth]⟩
  | 0, .n .tup _ xs, h => by simp [pD] at h
  | n + 1, .n .tup _ xs, h => by
    have h : pDL n xs = true := by simpa [pD] using h
    obtain ⟨a, b⟩ := lay_pDL n xs h
    exact ⟨by simpa [pyD, PyData.canLay0] using a, by simpa [pyD, PyData.depth] using b⟩
  | 0, .n .lst _ xs, h => by simp [pD] at h
  | n + 1, .n .lst _ xs, h => by
    have h : pDL n xs = true := by simpa [pD] using h
    obtain ⟨a, b⟩ := lay_pDL n xs h
    exact ⟨by simpa [pyD, PyData.canLay0] using a, by simpa [pyD, PyData.depth] using b⟩
  | _, .n .scr _ _, h => by simp [pD] at h
  | _, .n (.dct _) _ _, h => by simp [pD] at h
  | _, .n (.ins _ _) _ _, h => by simp [pD] at h
theorem lay_pDL : ∀ (n : Nat) (ds : List D), pDL n ds = true → PyData.canLayAll0 (pyL ds) = true ∧ PyData.depthAll (pyL ds) ≤ n
  | n, [], _ => ⟨by simp [pyL, PyData.canLayAll0], by simp [pyL, PyData.depthAll]⟩
  | n, x :: xs, h => by
    have h : (pD n x && pDL n xs) = true := by simpa only [pDL] using h
    rw [Bool.and_eq_true] at h
    obtain ⟨a, b⟩ := lay_pD n x h.1
    obtain ⟨c, d⟩ := lay_pDL n xs h.2
    refine ⟨?_, ?_⟩
    · simp only [pyL, PyData.canLayAll0, a, c, Bool.and_self]
    · simp only [pyL, PyData.depthAll]; omega
end
mutual
theorem eqv_D : ∀ (d e : D) (n m : Nat), pD n d = true → pD m e = true → PyData.eqv (pyD d) (pyD e) = eqD d e
  | .a x, .a y, _, _, _, _ => by cases x <;> cases y <;> simp [pyD, PyData.eqv, eqD, eqA]
  | .a x, .n .tup _ ys, _, _, _, _ => by cases x <;> simp [pyD, PyData.eqv, eqD]
  | .a x, .n .lst _ ys, _, _, _, _ => by cases x <;> simp [pyD, PyData.eqv, eqD]
  | .n .tup _ xs, .a y, _, _, _, _ => by cases y <;> simp [pyD, PyData.eqv, eqD]
  | .n .lst _ xs, .a y, _, _, _, _ => by cases y <;> simp [pyD, PyData.eqv, eqD]
  | .n .tup _ xs, .n .lst _ ys, _, _, _, _ => by simp [pyD, PyData.eqv, eqD]
  | .n .lst _ xs, .n .tup _ ys, _, _, _, _ => by simp [pyD, PyData.eqv, eqD]
  | .n .tup _ xs, .n .tup _ ys, n, m, h, k => by
    cases n with
    | zero => simp [pD] at h
    | succ n =>
      cases m with
      | zero => simp [pD] at k
      | succ m =>
        simp only [pyD, PyData.eqv, eqD]
        exact eqv_DL xs ys n m (by simpa [pD] using h) (by simpa [pD] using k)
  | .n .lst _ xs, .n .lst _ ys, n, m, h, k => by
    cases n with
    | zero => simp [pD] at h
    | succ n =>
      cases m with
      | zero => simp [pD] at k
      | succ m =>
        simp only [pyD, PyData.eqv, eqD]
        exact eqv_DL xs ys n m (by simpa [pD] using h) (by simpa [pD] using k)
  | .n .scr _ _, _, _, _, h, _ => by simp [pD] at h
  | .n (.dct _) _ _, _, _, _, h, _ => by simp [pD] at h
  | .n (.ins _ _) _ _, _, _, _, h, _ => by simp [pD] at h
  | _, .n .scr _ _, _, _, _, h => by simp [pD] at h
  | _, .n (.dct _) _ _, _, _, _, h => by simp [pD] at h
  | _, .n (.ins _ _) _ _, _, _, _, h => by simp [pD] at h
theorem eqv_DL : ∀ (d e : List D) (n m : Nat), pDL n d = true → pDL m e = true → PyData.eqvAll (pyL d) (pyL e) = eqDL d e
  | [], [], _, _, _, _ => by simp [pyL, PyData.eqvAll, eqDL]
  | [], y :: ys, _, _, _, _ => by simp [pyL, PyData.eqvAll, eqDL]
  | x :: xs, [], _, _, _, _ => by simp [pyL, PyData.eqvAll, eqDL]
  | x :: xs, y :: ys, n, m, h, k => by
    have h : (pD n x && pDL n xs) = true := by simpa only [pDL] using h
    have k : (pD m y && pDL m ys) = true := by simpa only [pDL] using k
    rw [Bool.and_eq_true] at h k
    simp only [pyL, PyData.eqvAll, eqDL]
    rw [eqv_D x y n m h.1 k.1, eqv_DL xs ys n m h.2 k.2]
end
section
variable {K : PySem.W.Frag} {cA : Str → Addr} {H : Hp} {Z : ZS}
mutual
theorem rep_dp : ∀ (d : D) (n : Nat) {v : V} {fp : FP}, pD n d = true → RepD K cA H Z d v fp → Dp K H v (pyD d)
  | .a x, _, v, fp, _, h => by
    obtain ⟨e, _⟩ := h
    subst e
    cases x with
    | non => simpa [pyD, At.v] using Dp.non
    | bl b => simpa [pyD, At.v] using Dp.bl b
    | int i => simpa [pyD, At.v] using Dp.int i
    | str s => simpa [pyD, At.v] using Dp.str s
  | .n .tup o xs, n, v, fp, hp, h => by
    obtain ⟨p, vs, rfl, e1, r1, _⟩ := rep_tup h
    cases n with
    | zero => simp [pD] at hp
    | succ n =>
      simp only [pyD]
      exact Dp.tup e1 (rep_dpL xs n (by simpa [pD] using hp) r1)
  | .n .lst o xs, n, v, fp, hp, h => by
    obtain ⟨p, vs, g, rfl, e1, r1, _⟩ := rep_lst h
    cases n with
    | zero => simp [pD] at hp
    | succ n =>
      simp only [pyD]
      exact Dp.lst (SqL.of e1) (rep_dpL xs n (by simpa [pD] using hp) r1)
  | .n .scr _ _, _, _, _, h, _ => by simp [pD] at h
  | .n (.dct _) _ _, _, _, _, h, _ => by simp [pD] at h
  | .n (.ins _ _) _ _, _, _, _, h, _ => by simp [pD] at h
theorem rep_dpL : ∀ (ds : List D) (n : Nat) {vs : List V} {g : FP}, pDL n ds = true → RepL K cA H Z ds vs g → DpAll K H vs (pyL ds)
  | [], _, _, _, _, h => by
    rw [h.1]
    simpa [pyL] using DpAll.nil
  | x :: xs, n, vs, g, hp, h => by
    have hp : (pD n x && pDL n xs) = true := by simpa only [pDL] using hp
    rw [Bool.and_eq_true] at hp
    obtain ⟨v, vs', f1, f2, ev, h1, h2, _⟩ := h
    subst ev
    simp only [pyL]
    exact DpAll.cons (rep_dp x n hp.1 h1) (rep_dpL xs n hp.2 h2)
end
theorem shaped_pD {d : D} {n : Nat} (h : pD n d = true) (hn : n ≤ 64) : SeqAt.shaped (pyD d) = true := by
  obtain ⟨a, b⟩ := lay_pD n d h
  unfold SeqAt.shaped
  rw [a, Bool.true_and, decide_eq_true_eq]
  exact Nat.le_trans b hn
end
def gEqA : D → D → Option D
  | .a x, .a y => if scal x.v y.v = true then some (.bl (decide (x = y))) else none
  | _, _ => none
def gNeA : D → D → Option D
  | .a x, .a y => if scal x.v y.v = true then some (.bl (!decide (x = y))) else none
  | _, _ => none
theorem At.v_inj : ∀ x y : At, x.v = y.v ↔ x = y := by
  intro x y
  cases x <;> cases y <;> simp [At.v]
def gEqP (d e : D) : Option D := if pD 60 d = true ∧ pD 60 e = true then some (.bl (eqD d e)) else none
def gNeP (d e : D) : Option D := if pD 60 d = true ∧ pD 60 e = true then some (.bl (!eqD d e)) else none
section
variable {K : PySem.W.Frag} {cA : Str → Addr}
theorem vop_eqA : VOp2 K cA rEq gEqA := vop_at fun d1 d2 d hg => by
  unfold gEqA at hg
  split at hg
  · rename_i x y
    split at hg
    · rename_i hs
      cases hg
      refine ⟨_, _, _, rfl, rfl, rfl, fun H Q q => ⟨hs, ?_⟩⟩
      have : decide (x.v = y.v) = decide (x = y) := decide_eq_decide.mpr (At.v_inj x y)
      rw [this]; exact q
    · cases hg
  · cases hg
theorem vop_neA : VOp2 K cA rNe gNeA := vop_at fun d1 d2 d hg => by
  unfold gNeA at hg
  split at hg
  · rename_i x y
    split at hg
    · rename_i hs
      cases hg
      refine ⟨_, _, _, rfl, rfl, rfl, fun H Q q => ⟨hs, ?_⟩⟩
      have : decide (x.v = y.v) = decide (x = y) := decide_eq_decide.mpr (At.v_inj x y)
      rw [this]; exact q
    · cases hg
  · cases hg
theorem vop_fin {H : Hp} {Z : ZS} {f1 f2 : FP} {Q : VK} {x : At} (w : Wf H Z (f1 ++ f2)) (q : ∀ v H' Z' fp, RepD K cA H' Z' (.a x) v fp → Wf H' Z' fp → Fr H Z (f1 ++ f2) H' Z' fp → Q v H') : Q x.v H :=
  q _ H Z [] ⟨rfl, rfl⟩ (wf0 w) (Fr.refl.less fun _ m => nomatch m)
theorem vop_eqP : VOp2 K cA (rEqD K) gEqP := by
  refine ⟨@fun d1 d2 d v1 v2 H Z f1 f2 Q h1 h2 w hg q => ?_⟩
  unfold gEqP at hg
  split at hg
  · rename_i hp
    cases hg
    refine ⟨pyD d1, pyD d2, rep_dp d1 60 hp.1 h1, rep_dp d2 60 hp.2 h2, shaped_pD hp.1 (by decide), shaped_pD hp.2 (by decide), ?_⟩
    rw [eqv_D d1 d2 60 60 hp.1 hp.2]
    exact vop_fin (x := .bl _) w q
  · cases hg
theorem vop_neP : VOp2 K cA (rNeD K) gNeP := by
  refine ⟨@fun d1 d2 d v1 v2 H Z f1 f2 Q h1 h2 w hg q => ?_⟩
  unfold gNeP at hg
  split at hg
  · rename_i hp
    cases hg
    refine ⟨pyD d1, pyD d2, rep_dp d1 60 hp.1 h1, rep_dp d2 60 hp.2 h2, shaped_pD hp.1 (by decide), shaped_pD hp.2 (by decide), ?_⟩
    rw [eqv_D d1 d2 60 60 hp.1 hp.2]
    exact vop_fin (x := .bl _) w q
  · cases hg
def isA : D → Bool
  | .a _ => true
  | _ => false
def anyEq (x : D) : List D → Bool
  | [] => false
  | y :: ys => eqD y x || anyEq x ys
def gInB (x : D) : D → Option Bool
  | .n .lst _ ys => if pD 60 x = true ∧ pDL 60 ys = true then some (anyEq x ys) else none
  | .n .tup _ ys => if isA x = true ∧ ys.all isA = true then some (anyEq x ys) else if pD 60 x = true ∧ pDL 60 ys = true then some (anyEq x ys) else none
  | .a (.str t) => (match x with
    | .a (.str s) => some (!(Builtin.Str.occurrences t s 0 t.length 1).isEmpty)
    | _ => none)
  | _ => none
def gNotIn (x y : D) : Option D := (gInB x y).map fun b => D.bl (!b)
theorem any_eqv {n m : Nat} {x : D} (hx : pD n x = true) : ∀ {ys : List D}, pDL m ys = true → ((pyL ys).any fun z => PyData.eqv z (pyD x)) = anyEq x ys
  | [], _ => rfl
  | y :: ys, h => by
    have h : (pD m y && pDL m ys) = true := by simpa only [pDL] using h
    rw [Bool.and_eq_true] at h
    simp only [pyL, List.any_cons, anyEq]
    rw [eqv_D y x m n h.1 hx, any_eqv hx h.2]
theorem flat_at (x : At) : flatV x.v = true := by cases x <;> rfl
theorem eqV_at (x y : At) : eqV x.v y.v = eqA x y := by cases x <;> cases y <;> simp [At.v, eqV, eqA]
theorem repL_atoms {H : Hp} {Z : ZS} : ∀ {ys : List D} {vs : List V} {g : FP}, RepL K cA H Z ys vs g → ys.all isA = true → vs.all flatV = true ∧ ∀ x : At, inV x.v vs = anyEq (.a x) ys
  | [], vs, g, h, _ => by
    rw [h.1]
    exact ⟨rfl, fun x => rfl⟩
  | y :: ys, vs, g, h, ha => by
    obtain ⟨v, vs', f1, f2, ev, h1, h2, _⟩ := h
    rw [List.all_cons, Bool.and_eq_true] at ha
    cases y with
    | n k o xs => simp [isA] at ha
    | a z =>
      obtain ⟨e1, _⟩ := h1
      subst ev e1
      obtain ⟨a, b⟩ := repL_atoms h2 ha.2
      refine ⟨by rw [List.all_cons, flat_at, a]; rfl, fun x => ?_⟩
      have b' := b x
      unfold inV at b' ⊢
      rw [List.any_cons, b', eqV_at]
      rfl
def rInAll (K : PySem.W.Frag) (neg : Bool) : R2 := fun x y H Q => (∃ b, ((∃ d ds, Dp K H x d ∧ Dp K H y (.list ds) ∧ SeqAt.shaped d = true ∧ SeqAt.shaped (.list ds) = true ∧ b = ds.any fun z => PyData.eqv z d) ∨
  (∃ p xs, y = .ref p ∧ (SqL K H p xs ∨ SqT K H p xs) ∧ flatV x = true ∧ xs.all flatV = true ∧ b = inV x xs) ∨ (∃ i j, x = .str i ∧ y = .str j ∧ b = !(Builtin.Str.occurrences j i 0 j.length 1).isEmpty) ∨ ∃ d ds, Dp K H x d ∧ Dp K H y (.tuple ds) ∧ SeqAt.shaped d = true ∧ SeqAt.shaped (.tuple ds) = true ∧ b = ds.any fun z => PyData.eqv z d) ∧ Q (.bl (if neg then !b else b)) H)
theorem gInB_ok {x y : D} {b neg : Bool} {v1 v2 : V} {H : Hp} {Z : ZS} {f1 f2 : FP} {Q : VK} (h1 : RepD K cA H Z x v1 f1) (h2 : RepD K cA H Z y v2 f2) (hg : gInB x y = some b) (q : Q (.bl (if neg then !b else b)) H) : rInAll K neg v1 v2 H Q := by
  refine ⟨b, ?_, q⟩
  unfold gInB at hg
  split at hg
  · rename_i o ys
    split at hg
    · rename_i hp
      cases hg
      obtain ⟨p, vs, g, rfl, e1, r1, _⟩ := rep_lst h2
      refine .inl ⟨pyD x, pyL ys, rep_dp x 60 hp.1 h1, Dp.lst (SqL.of e1) (rep_dpL ys 60 hp.2 r1), shaped_pD hp.1 (by decide), ?_, (any_eqv hp.1 hp.2).symm⟩
      exact shaped_pD (d := .lst o ys) (n := 61) (by simpa [pD] using hp.2) (by decide)
    · cases hg
  · rename_i o ys
    split at hg
    · rename_i hp
      cases hg
      obtain ⟨p, vs, rfl, e1, r1, _⟩ := rep_tup h2
      cases x with
      | n k o xs => simp [isA] at hp
      | a z =>
        obtain ⟨e, _⟩ := h1
        subst e
        obtain ⟨a, b⟩ := repL_atoms r1 hp.2
        exact .inr (.inl ⟨p, vs, rfl, .inr e1, flat_at z, a, (b z).symm⟩)
    · split at hg
      · rename_i hp
        cases hg
        obtain ⟨p, vs, rfl, e1, r1, _⟩ := rep_tup h2
        refine .inr (.inr (.inr ⟨pyD x, pyL ys, rep_dp x 60 hp.1 h1, Dp.tup e1 (rep_dpL ys 60 hp.2 r1), shaped_pD hp.1 (by decide), ?_, (any_eqv hp.1 hp.2).symm⟩))
        exact shaped_pD (d := .n .tup o ys) (n := 61) (by simpa [pD] using hp.2) (by decide)
      · cases hg
  · rename_i t
    split at hg
    · rename_i s
      cases hg
      obtain ⟨e1, _⟩ := h1
      obtain ⟨e2, _⟩ := h2
      subst e1 e2
      exact .inr (.inr (.inl ⟨s, t, rfl, rfl, rfl⟩))
    · cases hg
  · cases hg
theorem vop_notin : VOpP K cA (rInAll K true) gNotIn := by
  refine ⟨@fun d1 d2 d v1 v2 H Z f1 f2 Q h1 h2 hg q => ?_⟩
  unfold gNotIn at hg
  cases e : gInB d1 d2 with
  | none => rw [e] at hg; cases hg
  | some b =>
    rw [e] at hg
    cases hg
    exact gInB_ok h1 h2 e (q _ rfl)
theorem gNotIn_at : ∀ d1 d2 d, gNotIn d1 d2 = some d → ∃ x, d = .a x := fun d1 d2 d h => by
  unfold gNotIn at h
  cases e : gInB d1 d2 with
  | none => rw [e] at h; cases h
  | some b => rw [e] at h; cases h; exact ⟨_, rfl⟩
end
section
variable {X : Cx}
theorem op_notInT2 (hu : X.A.units + 65 < cLine) : OpR X (compareOp .NotIn) (fun x y H Q => ∃ d ds, Dp X.K H x d ∧ Dp X.K H y (.tuple ds) ∧ SeqAt.shaped d = true ∧ SeqAt.shaped (.tuple ds) = true ∧ Q (.bl (!ds.any fun z => PyData.eqv z d)) H) := by
  intro pins s σ H x y v u Q I rx ry h
  obtain ⟨d, ds, hd, he, sd, se, q⟩ := h
  obtain ⟨as, r1⟩ := Dp.reads I d x v hd rx
  obtain ⟨bs, r2⟩ := Dp.reads I (.tuple ds) y u he ry
  exact SeqAt.notIn_tuple_reads r2 r1 (SeqAt.canLay_of_shaped se) (SeqAt.canLay_of_shaped sd) (PyProof.Rows.room_in_shaped sd hu) ⟨.bl _, H, I, rfl, q⟩
theorem op_notInAll (hu : X.A.units + 65 < cLine) : OpR X (compareOp .NotIn) (rInAll X.K true) := by
  intro pins s σ H x y v u Q I rx ry h
  obtain ⟨b, h, q⟩ := h
  rcases h with ⟨d, ds, h1, h2, s1, s2, rfl⟩ | ⟨p, xs, h1, h2, h3, h4, rfl⟩ | ⟨i, j, h1, h2, rfl⟩ | ⟨d, ds, h1, h2, s1, s2, rfl⟩
  · exact op_notInD hu pins s σ H x y v u Q I rx ry ⟨d, ds, h1, h2, s1, s2, q⟩
  · exact op_notIn_seq pins s σ H x y v u Q I rx ry ⟨p, xs, h1, h2, h3, h4, q⟩
  · exact op_notin_str pins s σ H x y v u Q I rx ry ⟨i, j, h1, h2, q⟩
  · exact op_notInT2 hu pins s σ H x y v u Q I rx ry ⟨d, ds, h1, h2, s1, s2, q⟩
end
end DL
namespace DL
open PySem L2
abbrev gEq : D → D → Option D := gOr gEqA gEqP
abbrev gNe : D → D → Option D := gOr gNeA gNeP
abbrev gLt : D → D → Option D := gIB fun i j => decide (i < j)
abbrev gLe : D → D → Option D := gIB fun i j => decide (i ≤ j)
abbrev gGt : D → D → Option D := gIB fun i j => decide (j < i)
abbrev gGe : D → D → Option D := gIB fun i j => decide (j ≤ i)
structure CR2 (X : Cx) (cA : Str → Addr) (op : CmpOp) (g : D → D → Option D) : Prop where
  ex : ∃ r, OpR X (compareOp op) r ∧ VOp2 X.K cA r g ∧ op ≠ .In ∧ op ≠ .NotIn
section
variable {X : Cx} {cA : Str → Addr}
theorem cr_eq (hu : X.A.units + 64 < cLine) : CR2 X cA .Eq gEq := ⟨_, op_eq.or (op_eqD hu), vop_or vop_eqA vop_eqP, by decide, by decide⟩
theorem cr_ne (hu : X.A.units + 64 < cLine) : CR2 X cA .NotEq gNe := ⟨_, op_ne.or (op_neD hu), vop_or vop_neA vop_neP, by decide, by decide⟩
theorem cr_lt : CR2 X cA .Lt gLt := ⟨_, op_lt, vop_ib, by decide, by decide⟩
theorem cr_gt : CR2 X cA .Gt gGt := ⟨_, op_gt, vop_ib, by decide, by decide⟩
theorem cr_ge : CR2 X cA .GtE gGe := ⟨_, op_ge, vop_ib, by decide, by decide⟩
end
def dB (f : Env → Out D) : Env → Out Bool := fun ρ => match f ρ with
  | .ok (.a (.bl b)) ρ' => .ok b ρ'
  | .ok _ _ => .st
  | .ex e ρ' => .ex e ρ'
  | .st => .st
section
variable {X : Cx} {cA : Str → Addr} {W : WX} {fa fb fc : Env → Out D} {a b c : Expr} {pos : Pos}
theorem tt_of {K : PySem.W.Frag} {t : TE} {f : Env → Out D} (h : ∀ σ H Q, TEof K cA W f σ H Q → t σ H Q) : ∀ σ H Q, TTof K cA W (dB f) σ H Q → t σ H (fun x H' => ∃ k, x = .bl k ∧ Q k H') := by
  rintro σ H Q ⟨Z, L, ρ, r, w, p⟩
  refine h σ H _ ⟨Z, L, ρ, r, w, ?_⟩
  unfold dB at p
  cases hf : f ρ with
  | st => rw [hf] at p; exact p.elim
  | ex e ρ' => rw [hf] at p; exact p
  | ok d ρ' =>
    rw [hf] at p
    intro v H' Z' L' fp r' w' h' f'
    cases d with
    | n k o xs => exact p.elim
    | a x =>
      cases x with
      | bl k =>
        obtain ⟨e1, e2⟩ := h'
        subst e1 e2
        exact ⟨k, rfl, p H' Z' L' r' w' f'⟩
      | non => exact p.elim
      | int i => exact p.elim
      | str s => exact p.elim
theorem de_cr {op : CmpOp} {g : D → D → Option D} (C : CR2 X cA op g) (ha : DE X cA W fa a) (hb : DE X cA W fb b) : DE X cA W (dOp2 g fa fb) (.Compare a [op] [b] pos) := by
  obtain ⟨r, ho, V, h1, h2⟩ := C.ex
  exact de_cmp ho V ha hb (nomark b h1 h2)
theorem dt_cr {op : CmpOp} {g : D → D → Option D} (C : CR2 X cA op g) (ha : DE X cA W fa a) (hb : DE X cA W fb b) : DT X cA W (dB (dOp2 g fa fb)) (.Compare a [op] [b] pos) := by
  obtain ⟨r, ho, V, h1, h2⟩ := C.ex
  exact PT.imp (pt_cmpR ho ha hb (nomark b h1 h2)) (tt_of (te_op2 V))
theorem dt_notin (hu : X.A.units + 65 < cLine) (ha : DE X cA W fa a) (hb : DP X cA W fb b) (hm : behindInMarks .NotIn b = false := by kernel_rfl) : DT X cA W (dB (dOp2 gNotIn fa fb)) (.Compare a [.NotIn] [b] pos) :=
  PT.imp (pt_cmpR (op_notInAll hu) ha hb hm) (tt_of (te_opP vop_notin gNotIn_at))
theorem dt_val {f : Env → Out D} {e : Expr} (h : DE X cA W f e) (he : ∀ whole, isTrue e X.env whole = (do let v ← whole; standAt e.pos; holding [v] (truthy v)) := by intro _; kernel_rfl) : DT X cA W (dB f) e :=
  PT.imp (pt_val h he) (tt_of fun _ _ _ t => t)
def dAndT (f g : Env → Out Bool) : Env → Out Bool := fun ρ => match f ρ with
  | .ok true ρ1 => g ρ1
  | .ok false ρ1 => .ok false ρ1
  | .ex e ρ1 => .ex e ρ1
  | .st => .st
def dOrT (f g : Env → Out Bool) : Env → Out Bool := fun ρ => match f ρ with
  | .ok true ρ1 => .ok true ρ1
  | .ok false ρ1 => g ρ1
  | .ex e ρ1 => .ex e ρ1
  | .st => .st
def dNotT (f : Env → Out Bool) : Env → Out Bool := fun ρ => match f ρ with
  | .ok b ρ1 => .ok (!b) ρ1
  | .ex e ρ1 => .ex e ρ1
  | .st => .st
variable {ta tb : Env → Out Bool} {rest : List Expr}
theorem dw_and1 (ha : DT X cA W ta a) : DW X cA W ta (.BoolOp .And [a] pos) := pw_and1 ha
theorem dw_or1 (ha : DT X cA W ta a) : DW X cA W ta (.BoolOp .Or [a] pos) := pw_or1 ha
theorem tt_and {K : PySem.W.Frag} : ∀ σ H Q, TTof K cA W (dAndT ta tb) σ H Q → tAnd (TTof K cA W ta) (TTof K cA W tb) σ H Q := by
  rintro σ H Q ⟨Z, L, ρ, r0, w, p⟩
  refine ⟨Z, L, ρ, r0, w, ?_⟩
  unfold dAndT at p
  cases ha : ta ρ with
  | st => rw [ha] at p; exact p
  | ex e ρ' => rw [ha] at p; exact p
  | ok k ρ1 =>
    rw [ha] at p
    intro H1 Z1 L1 r1 w1 F1
    cases k with
    | false => exact p H1 Z1 L1 r1 w1 F1
    | true =>
      rw [if_pos rfl]
      refine ⟨Z1, L1, ρ1, r1, w1, ?_⟩
      dsimp only at p
      cases hb : tb ρ1 with
      | st => rw [hb] at p; exact p
      | ex e ρ' => rw [hb] at p; exact exw p F1
      | ok k ρ2 =>
        rw [hb] at p
        exact fun H2 Z2 L2 r2 w2 F2 => p H2 Z2 L2 r2 w2 (F1.trans F2)
theorem tt_or {K : PySem.W.Frag} : ∀ σ H Q, TTof K cA W (dOrT ta tb) σ H Q → tOr (TTof K cA W ta) (TTof K cA W tb) σ H Q := by
  rintro σ H Q ⟨Z, L, ρ, r0, w, p⟩
  refine ⟨Z, L, ρ, r0, w, ?_⟩
  unfold dOrT at p
  cases ha : ta ρ with
  | st => rw [ha] at p; exact p
  | ex e ρ' => rw [ha] at p; exact p
  | ok k ρ1 =>
    rw [ha] at p
    intro H1 Z1 L1 r1 w1 F1
    cases k with
    | true => exact p H1 Z1 L1 r1 w1 F1
    | false =>
      rw [if_neg Bool.false_ne_true]
      refine ⟨Z1, L1, ρ1, r1, w1, ?_⟩
      dsimp only at p
      cases hb : tb ρ1 with
      | st => rw [hb] at p; exact p
      | ex e ρ' => rw [hb] at p; exact exw p F1
      | ok k ρ2 =>
        rw [hb] at p
        exact fun H2 Z2 L2 r2 w2 F2 => p H2 Z2 L2 r2 w2 (F1.trans F2)
theorem tt_not {K : PySem.W.Frag} : ∀ σ H Q, TTof K cA W (dNotT ta) σ H Q → tNot (TTof K cA W ta) σ H Q := by
  rintro σ H Q ⟨Z, L, ρ, r0, w, p⟩
  refine ⟨Z, L, ρ, r0, w, ?_⟩
  unfold dNotT at p
  cases ha : ta ρ with
  | st => rw [ha] at p; exact p
  | ex e ρ' => rw [ha] at p; exact p
  | ok k ρ1 => rw [ha] at p; exact p
theorem dw_and (ha : DT X cA W ta a) (hb : DW X cA W tb (.BoolOp .And (b :: rest) pos)) : DW X cA W (dAndT ta tb) (.BoolOp .And (a :: b :: rest) pos) := PW.imp (pw_and ha hb) tt_and
theorem dw_or (ha : DT X cA W ta a) (hb : DW X cA W tb (.BoolOp .Or (b :: rest) pos)) : DW X cA W (dOrT ta tb) (.BoolOp .Or (a :: b :: rest) pos) := PW.imp (pw_or ha hb) tt_or
theorem dt_w {e : Expr} (h : DW X cA W ta e) : DT X cA W ta e := h.pt
theorem dt_not (ha : DT X cA W ta a) : DT X cA W (dNotT ta) (.UnaryOp .Not a pos) := PT.imp (pt_not ha) tt_not
def dAndV (f g : Env → Out D) : Env → Out D := fun ρ => match dB f ρ with
  | .ok true ρ1 => g ρ1
  | .ok false ρ1 => .ok (.bl false) ρ1
  | .ex e ρ1 => .ex e ρ1
  | .st => .st
def dOrV (f g : Env → Out D) : Env → Out D := fun ρ => match dB f ρ with
  | .ok true ρ1 => .ok (.bl true) ρ1
  | .ok false ρ1 => g ρ1
  | .ex e ρ1 => .ex e ρ1
  | .st => .st
def dNotV (f : Env → Out D) : Env → Out D := fun ρ => match dB f ρ with
  | .ok b ρ1 => .ok (.bl (!b)) ρ1
  | .ex e ρ1 => .ex e ρ1
  | .st => .st
theorem de_one {op} {f : Env → Out D} (h : DE X cA W f a) : DE X cA W f (.BoolOp op [a] pos) := pe_one h
theorem te_and {K : PySem.W.Frag} : ∀ σ H Q, TEof K cA W (dAndV fa fb) σ H Q → tAndV (TEof K cA W fa) (TEof K cA W fb) σ H Q := by
  rintro σ H Q ⟨Z, L, ρ, r0, w, p⟩
  refine tt_of (f := fa) (fun _ _ _ t => t) σ H (fun k H1 => if k = true then TEof K cA W fb σ H1 Q else Q (.bl false) H1) ⟨Z, L, ρ, r0, w, ?_⟩
  unfold dAndV at p
  cases ha : dB fa ρ with
  | st => rw [ha] at p; exact p
  | ex e ρ' => rw [ha] at p; exact p
  | ok k ρ1 =>
    rw [ha] at p
    intro H1 Z1 L1 r1 w1 F1
    cases k with
    | false =>
      show Q (.bl false) H1
      exact p _ H1 Z1 L1 [] r1 w1 ⟨rfl, rfl⟩ F1
    | true =>
      show TEof K cA W fb σ H1 Q
      refine ⟨Z1, L1, ρ1, r1, w1, ?_⟩
      dsimp only at p
      cases hb : fb ρ1 with
      | st => rw [hb] at p; exact p
      | ex e ρ' => rw [hb] at p; exact exw p F1
      | ok k ρ2 =>
        rw [hb] at p
        exact fun v H2 Z2 L2 fp r2 w2 h2 F2 => p v H2 Z2 L2 fp r2 w2 h2 (F1.trans F2)
theorem te_not {K : PySem.W.Frag} : ∀ σ H Q, TEof K cA W (dNotV fa) σ H Q → tNotV (TEof K cA W fa) σ H Q := by
  rintro σ H Q ⟨Z, L, ρ, r0, w, p⟩
  refine tt_of (f := fa) (fun _ _ _ t => t) σ H (fun k H1 => Q (.bl (!k)) H1) ⟨Z, L, ρ, r0, w, ?_⟩
  unfold dNotV at p
  cases ha : dB fa ρ with
  | st => rw [ha] at p; exact p
  | ex e ρ' => rw [ha] at p; exact p
  | ok k ρ1 =>
    rw [ha] at p
    exact fun H1 Z1 L1 r1 w1 F1 => p _ H1 Z1 L1 [] r1 w1 ⟨rfl, rfl⟩ F1
theorem de_and2 (ha : DE X cA W fa a) (hb : DE X cA W fb (.BoolOp .And (b :: rest) pos)) : DE X cA W (dAndV fa fb) (.BoolOp .And (a :: b :: rest) pos) := PE.imp (pe_and ha hb) te_and
theorem de_notV (ha : DE X cA W fa a) : DE X cA W (dNotV fa) (.UnaryOp .Not a pos) := PE.imp (pe_not ha) te_not
def dIfE (t : Env → Out Bool) (f g : Env → Out D) : Env → Out D := fun ρ => match t ρ with
  | .ok true ρ1 => f ρ1
  | .ok false ρ1 => g ρ1
  | .ex e ρ1 => .ex e ρ1
  | .st => .st
end
def dANil : Env → Out (List Ag) := fun ρ => .ok [] ρ
def dACons (f : Env → Out D) (g : Env → Out (List Ag)) : Env → Out (List Ag) := fun ρ => match f ρ with
  | .ok d ρ1 => (match g ρ1 with
    | .ok ds ρ2 => .ok (.d d :: ds) ρ2
    | .ex e ρ2 => .ex e ρ2
    | .st => .st)
  | .ex e ρ1 => .ex e ρ1
  | .st => .st
def dALent (i : Nat) (g : Env → Out (List Ag)) : Env → Out (List Ag) := fun ρ => match ρ[i]? with
  | some (some _) => (match g ρ with
    | .ok ds ρ2 => .ok (.s i :: ds) ρ2
    | .ex e ρ2 => .ex e ρ2
    | .st => .st)
  | _ => .st
section
variable {X : Cx} {cA : Str → Addr} {W : WX} {f : Env → Out D} {g : Env → Out (List Ag)} {e : Expr} {es : List Expr}
theorem da_nil : DA X cA W dANil [] := da_of pa_nil fun σ H Q Z L ρ r w p => p [] H Z L [] r w ⟨rfl, rfl⟩ Fr.refl
theorem da_cons (hf : DE X cA W f e) (hg : DA X cA W g es) (hs : starEach (e :: es) X.env = (false, eval e X.env) :: starEach es X.env := by kernel_rfl) : DA X cA W (dACons f g) (e :: es) := da_of (pa_cons hf hg hs) fun σ H Q Z L ρ r w p => by
  refine ⟨Z, L, ρ, r, w, ?_⟩
  unfold dACons at p
  cases ha : f ρ with
  | st => rw [ha] at p; exact p
  | ex e ρ' => rw [ha] at p; exact p
  | ok d1 ρ1 =>
    rw [ha] at p
    intro v1 H1 Z1 L1 f1 r1 w1 h1 F1
    refine ⟨Z1, L1, ρ1, r1, w1.less (List.sublist_append_right _ _), ?_⟩
    dsimp only at p
    cases hb : g ρ1 with
    | st => rw [hb] at p; exact p
    | ex e ρ' =>
      rw [hb] at p
      exact exw p (F1.less fun x m => by simp [m])
    | ok ds ρ2 =>
      rw [hb] at p
      intro vs H2 Z2 L2 f2 r2 w2 h2 F2
      have w12 : Wf H2 Z2 (f1 ++ (f2 ++ L2)) := w1.wait (repD_trk d1 h1) F2 w2
      have F12 := Fr.wait w1 F1 F2
      rw [← List.append_assoc] at w12 F12
      exact p (v1 :: vs) H2 Z2 L2 (f1 ++ f2) r2 w12 ⟨v1, vs, f1, f2, rfl, repD_wait w1 h1 F2, h2, rfl⟩ F12
theorem da_lent {i : Nat} (hf : PE X e (tVar i)) (hg : DA X cA W g es) (hs : starEach (e :: es) X.env = (false, eval e X.env) :: starEach es X.env := by kernel_rfl) : DA X cA W (dALent i g) (e :: es) := da_of (pa_cons hf hg hs) fun σ H Q Z L ρ r w p => by
  unfold dALent at p
  split at p
  · rename_i d hd
    obtain ⟨v, f0, f1, f2, hv, hr, ef, _, _⟩ := relL_at r hd
    refine ⟨v, hv, Z, L, ρ, r, w, ?_⟩
    cases hb : g ρ with
    | st => rw [hb] at p; exact p
    | ex e ρ' => rw [hb] at p; exact p
    | ok ds ρ2 =>
      rw [hb] at p
      exact fun vs H2 Z2 L2 fp r2 w2 h2 F2 => p (v :: vs) H2 Z2 L2 fp r2 w2 ⟨v, vs, rfl, hv, h2⟩ F2
  · exact p.elim
end
def agL : List Ag → Option (List D)
  | [] => some []
  | .d x :: xs => (agL xs).map (x :: ·)
  | .s _ :: _ => none
theorem repA_L {K : PySem.W.Frag} {cA : Str → Addr} {σ : L2.St} {H : Hp} {Z : ZS} : ∀ {ds : List Ag} {xs : List D} {vs : List V} {fp : FP}, agL ds = some xs → RepA K cA H Z σ ds vs fp → RepL K cA H Z xs vs fp
  | [], xs, vs, fp, e, h => by
    cases e
    exact h
  | .d x :: ds, xs, vs, fp, e, h => by
    obtain ⟨v, vs', f1, f2, ev, h1, h2, ef⟩ := h
    unfold agL at e
    cases hd : agL ds with
    | none => rw [hd] at e; cases e
    | some ys =>
      rw [hd] at e
      cases e
      exact ⟨v, vs', f1, f2, ev, h1, repA_L hd h2, ef⟩
  | .s i :: ds, xs, vs, fp, e, h => by simp [agL] at e
def dTup (g : Env → Out (List Ag)) : Env → Out D := fun ρ => match g ρ with
  | .ok ds ρ1 => (match agL ds with
    | some xs => if xs.length ≤ cap then .ok (.tup (frzL xs)) ρ1 else .st
    | none => .st)
  | .ex e ρ1 => .ex e ρ1
  | .st => .st
def dLst (g : Env → Out (List Ag)) : Env → Out D := fun ρ => match g ρ with
  | .ok ds ρ1 => (match agL ds with
    | some xs => if xs.length ≤ cap then .ok (.lst true xs) ρ1 else .st
    | none => .st)
  | .ex e ρ1 => .ex e ρ1
  | .st => .st
section
variable {X : Cx} {cA : Str → Addr} {W : WX} {g : Env → Out (List Ag)} {es : List Expr} {pos : Pos}
theorem de_tup {x1} (h : DA X cA W g es) : DE X cA W (dTup g) (.Tuple es x1 pos) := de_of (pe_tupN h) fun σ H Q Z L ρ r w p => by
  refine ⟨Z, L, ρ, r, w, ?_⟩
  unfold dTup at p
  cases ha : g ρ with
  | st => rw [ha] at p; exact p
  | ex e ρ' => rw [ha] at p; exact p
  | ok ds ρ1 =>
    rw [ha] at p
    dsimp only at p
    split at p
    · rename_i xs hx
      split at p
      · rename_i hl
        intro vs H1 Z1 L1 f1 r1 w1 h1 F1
        have hL := repA_L hx h1
        have len := repL_len hL
        refine ⟨cap_le (by omega), fun q ob hq ho => ?_⟩
        have wz := w1.freeze (repL_trk xs hL)
        obtain ⟨a, b, c⟩ := new_tup (wf0 wz) (repL_zu hL) hq ho
        obtain ⟨r3, w3, F3⟩ := hand0 wz (relL_zu r1) c b
        exact p _ _ _ L1 [] r3 w3 a (F1.freeze.trans F3)
      · exact p.elim
    · exact p.elim
theorem de_lst (h : DA X cA W g es) : DE X cA W (dLst g) (.List es pos) := de_of (pe_lst h) fun σ H Q Z L ρ r w p => by
  refine ⟨Z, L, ρ, r, w, ?_⟩
  unfold dLst at p
  cases ha : g ρ with
  | st => rw [ha] at p; exact p
  | ex e ρ' => rw [ha] at p; exact p
  | ok ds ρ1 =>
    rw [ha] at p
    dsimp only at p
    split at p
    · rename_i xs hx
      split at p
      · rename_i hl
        intro vs H1 Z1 L1 f1 r1 w1 h1 F1
        have hL := repA_L hx h1
        have len := repL_len hL
        refine ⟨cap_le (by omega), fun q hq => ?_⟩
        have kn := keep_new (o := .lst vs) hq
        have tr : ∀ a ∈ f1 ++ L1, ∃ o, H1 a = some o := fun a m => (List.mem_append.mp m).elim (repL_trk xs hL a) (relL_trk r1 a)
        refine p (.ref q) _ Z1 L1 (q :: f1) (relL_mono (fun _ z => z) (fun a o _ e => kn a o e) r1) (wf_new w1 hq tr) ⟨q, vs, f1, rfl, repL_mono xs (fun _ z => z) (fun a o _ e => kn a o e) hL, ⟨upd_same, fun z => nomatch z⟩, rfl, fun z => nomatch z⟩ (F1.trans (fr_new hq))
      · exact p.elim
    · exact p.elim
end
end DL
namespace DL
open PySem L2
def qC (x : At) : Env → Option At := fun _ => some x
def qVar (i : Nat) : Env → Option At := fun ρ => match ρ[i]? with
  | some (some (.a x)) => some x
  | _ => none
def qOp (f : Int → Int → Int) (g h : Env → Option At) : Env → Option At := fun ρ => match g ρ, h ρ with
  | some (.int i), some (.int j) => some (.int (f i j))
  | _, _ => none
section
variable {X : Cx} {cA : Str → Addr} {W : WX} {g h : Env → Option At} {a b : Expr} {pos : Pos}
end
def gIxO (x y : D) : Option D := match y with
  | .a (.int i) => (match x with
    | .n .lst _ xs => atI xs i
    | .n .scr _ xs => atI xs i
    | .n .tup _ xs => atI xs i
    | .a (.str s) => if s.length ≤ cap then (atI s.cps.toList i).map fun c => D.str ⟨#[c]⟩ else none
    | _ => none)
  | _ => none
def gIx (x y : D) : Option D := match gIxO x y with
  | some d => if isF d = true then some d else none
  | none => none
section
variable {K : PySem.W.Frag} {cA : Str → Addr} {H : Hp} {Z : ZS}
theorem atI_rep {xs : List D} {vs : List V} {g : FP} {i : Int} {d : D} (h : RepL K cA H Z xs vs g) (e : atI xs i = some d) : ∃ v f0 f1 f2, atI vs i = some v ∧ RepD K cA H Z d v f1 ∧ g = f0 ++ f1 ++ f2 := by
  unfold atI at e ⊢
  rw [repL_len h]
  cases hj : ixN xs.length i with
  | none => rw [hj] at e; cases e
  | some j =>
    rw [hj] at e
    exact repL_get h e
theorem ix_rep {x y d : D} {v1 v2 : V} {f1 f2 : FP} {Q : VK} (h1 : RepD K cA H Z x v1 f1) (h2 : RepD K cA H Z y v2 f2) (hg : gIxO x y = some d) (q : ∀ v f0 f f3, RepD K cA H Z d v f → (f = [] ∨ ∃ p, f1 = p :: (f0 ++ f ++ f3)) → Q v H) : rIx K v1 v2 H Q := by
  unfold gIxO at hg
  split at hg
  · rename_i i
    obtain ⟨e2, _⟩ := h2
    subst e2
    split at hg
    · rename_i o xs
      obtain ⟨p, vs, g, rfl, e1, r1, ef, hz⟩ := rep_lst h1
      obtain ⟨v, g0, g1, g2, hv, hr, eg⟩ := atI_rep r1 hg
      refine .inl ⟨p, vs, i, v, rfl, rfl, SqL.of e1, hv, q v g0 g1 g2 hr ?_⟩
      cases o with
      | true => exact .inr ⟨p, by rw [ef, eg]; rfl⟩
      | false =>
        have := (hz rfl).2
        rw [this] at eg
        left
        have e3 := congrArg List.length eg
        simp at e3
        exact List.eq_nil_of_length_eq_zero (by omega)
    · rename_i o xs
      obtain ⟨p, vs, rfl, e1, r1, ef, _⟩ := rep_scr h1
      obtain ⟨v, g0, g1, g2, hv, hr, eg⟩ := atI_rep r1 hg
      refine .inl ⟨p, vs, i, v, rfl, rfl, e1, hv, q v g0 g1 g2 hr ?_⟩
      left
      have e3 := congrArg List.length eg
      simp at e3
      exact List.eq_nil_of_length_eq_zero (by omega)
    · rename_i o xs
      obtain ⟨p, vs, rfl, e1, r1, ef, _⟩ := rep_tup h1
      obtain ⟨v, g0, g1, g2, hv, hr, eg⟩ := atI_rep r1 hg
      refine .inr (.inl ⟨p, vs, i, v, rfl, rfl, e1, hv, q v g0 g1 g2 hr ?_⟩)
      left
      have e3 := congrArg List.length eg
      simp at e3
      exact List.eq_nil_of_length_eq_zero (by omega)
    · rename_i s
      split at hg
      · rename_i hs
        obtain ⟨e1, _⟩ := h1
        subst e1
        cases hc : atI s.cps.toList i with
        | none => rw [hc] at hg; cases hg
        | some c =>
          rw [hc] at hg
          cases hg
          exact .inr (.inr ⟨s, i, c, rfl, rfl, cap_le hs, hc, q _ [] [] [] ⟨rfl, rfl⟩ (.inl rfl)⟩)
      · cases hg
    · cases hg
  · cases hg
theorem vop_ix : VOp2 K cA (rIx K) gIx := by
  refine ⟨@fun d1 d2 d v1 v2 H Z f1 f2 Q h1 h2 w hg q => ?_⟩
  unfold gIx at hg
  split at hg
  · rename_i d' hd
    split at hg
    · rename_i hf
      cases hg
      refine ix_rep h1 h2 hd fun v f0 f f3 hr _ => ?_
      have e := repD_isF d hr hf
      subst e
      exact q v H Z [] hr (wf0 w) (Fr.refl.less fun _ m => nomatch m)
    · cases hg
  · cases hg
end
section
variable {X : Cx} {cA : Str → Addr} {W : WX} {fa fb : Env → Out D} {a b : Expr} {pos : Pos}
theorem de_ix (ha : DE X cA W fa a) (hb : DE X cA W fb b) (hs : PlainIx b := by exact fun _ _ => rfl) : DE X cA W (dOp2 gIx fa fb) (.Subscript a b pos) := PE.imp (pe_ix ix_seq ha hb hs) (te_op2 vop_ix)
def dIxS (i : Nat) (fb : Env → Out D) : Env → Out D := fun ρ => match fb ρ with
  | .ok k ρ1 => (match ρ1[i]? with
    | some (some x) => (match gIxO x k with
      | some d => .ok d ρ1
      | none => .st)
    | _ => .st)
  | .ex e ρ1 => .ex e ρ1
  | .st => .st
theorem slot_now {K : PySem.W.Frag} {H : Hp} {Z : ZS} {ρ ρ1 : Env} {σ : L2.St} {L : FP} {i : Nat} {v : V} {d : D} (r : RelL K cA H Z ρ1 σ L) (h : ρ1[i]? = some (some d)) (hv : σ[i]? = some (some v)) : ∃ f0 f1 f2, RepD K cA H Z d v f1 ∧ L = f0 ++ f1 ++ f2 := by
  obtain ⟨v', f0, f1, f2, hv', hr, ef, _, _⟩ := relL_at r h
  rw [hv] at hv'
  cases hv'
  exact ⟨f0, f1, f2, hr, ef⟩
theorem dp_ixS {i : Nat} (ha : PE X a (tVar i)) (hb : DE X cA W fb b) (hi : ∀ ρ ρ1 : Env, True := by intros; trivial) (hs : PlainIx b := by exact fun _ _ => rfl) : DP X cA W (fun ρ => match ρ[i]? with | some (some _) => dIxS i fb ρ | _ => .st) (.Subscript a b pos) :=
  dp_of (pe_ix ix_seq ha hb hs) fun σ H Q Z L ρ r w p => by
    split at p
    · rename_i d0 hd0
      obtain ⟨v, _, _, _, hv, _, _, _, _⟩ := relL_at r hd0
      refine ⟨v, hv, Z, L, ρ, r, w, ?_⟩
      unfold dIxS at p
      cases hb' : fb ρ with
      | st => rw [hb'] at p; exact p
      | ex e ρ' => rw [hb'] at p; exact p
      | ok k ρ1 =>
        rw [hb'] at p
        intro y H1 Z1 L1 f1 r1 w1 h1 F1
        dsimp only at p
        split at p
        · rename_i x hx
          split at p
          · rename_i d hg
            obtain ⟨g0, g1, g2, hr, eL⟩ := slot_now (ρ := ρ) r1 hx hv
            refine ix_rep hr h1 hg fun u f0 f f3 hu _ => ?_
            exact p u H1 Z1 L1 f r1 (w1.less (List.sublist_append_right _ _)) hu (F1.less fun x m => by simp [m])
          · exact p.elim
        · exact p.elim
    · exact p.elim
def dIxV (i : Nat) (fb : Env → Out D) : Env → Out D := fun ρ => match ρ[i]? with
  | some (some _) => (match dIxS i fb ρ with
    | .ok d ρ1 => if isF d = true then .ok d ρ1 else .st
    | .ex e ρ1 => .ex e ρ1
    | .st => .st)
  | _ => .st
theorem de_dp {f : Env → Out D} {e : Expr} (h : DP X cA W f e) : DE X cA W (fun ρ => match f ρ with | .ok d ρ1 => if isF d = true then .ok d ρ1 else .st | .ex e ρ1 => .ex e ρ1 | .st => .st) e := de_of h fun σ H Q Z L ρ r w p => ⟨Z, L, ρ, r, w, by
  cases hf : f ρ with
  | st => rw [hf] at p; exact p
  | ex e ρ' => rw [hf] at p; exact p
  | ok d ρ1 =>
    rw [hf] at p
    dsimp only at p
    split at p
    · rename_i hd
      intro v H' Z' L' fp r' w' h' f'
      have e := repD_isF d h' hd
      subst e
      exact p v H' Z' L' [] r' w' h' f'
    · exact p.elim⟩
theorem de_ixS {i : Nat} (ha : PE X a (tVar i)) (hb : DE X cA W fb b) (hs : PlainIx b := by exact fun _ _ => rfl) : DE X cA W (dIxV i fb) (.Subscript a b pos) := by
  refine PE.imp (de_dp (dp_ixS ha hb (hs := hs))) fun σ H Q ⟨Z, L, ρ, r, w, p⟩ => ⟨Z, L, ρ, r, w, ?_⟩
  unfold dIxV at p
  dsimp only
  split at p
  · exact p
  · exact p.elim
def dIxP (fa : Env → Out D) (g : Env → Option At) : Env → Out D := fun ρ => match fa ρ with
  | .ok x ρ1 => (match g ρ1 with
    | some k => (match gIxO x (.a k) with
      | some d => .ok d ρ1
      | none => .st)
    | none => .st)
  | .ex e ρ1 => .ex e ρ1
  | .st => .st
end
def cutD (xs : List D) (lo hi : Option Int) : List D := (xs.drop (HT.sIx xs.length 0 lo)).take (HT.sIx xs.length xs.length hi - HT.sIx xs.length 0 lo)
def gSl (x : D) (lo hi : Option Int) : Option D := match x with
  | .n .lst _ xs => if isFL xs = true then some (.lst true (cutD xs lo hi)) else none
  | .n .scr _ xs => if isFL xs = true then some (.lst true (cutD xs lo hi)) else none
  | .n .tup _ xs => some (.tup (cutD xs lo hi))
  | .a (.str s) => if s.length ≤ cap then some (.str (cutS s lo hi)) else none
  | _ => none
section
variable {K : PySem.W.Frag} {cA : Str → Addr} {H : Hp} {Z : ZS}
theorem repL_drop {xs : List D} {vs : List V} (h : RepL K cA H Z xs vs []) : ∀ n : Nat, RepL K cA H Z (xs.drop n) (vs.drop n) [] := by
  induction xs generalizing vs with
  | nil => intro n; rw [h.1]; simp only [List.drop_nil]; exact ⟨rfl, rfl⟩
  | cons x xs ih =>
    obtain ⟨v, vs', f1, f2, ev, h1, h2, ef⟩ := h
    subst ev
    have e := List.append_eq_nil_iff.mp ef.symm
    rw [e.1] at h1
    rw [e.2] at h2
    intro n
    cases n with
    | zero => exact ⟨v, vs', [], [], rfl, h1, h2, rfl⟩
    | succ n => exact ih h2 n
theorem repL_take {xs : List D} {vs : List V} (h : RepL K cA H Z xs vs []) : ∀ n : Nat, RepL K cA H Z (xs.take n) (vs.take n) [] := by
  induction xs generalizing vs with
  | nil => intro n; rw [h.1]; simp only [List.take_nil]; exact ⟨rfl, rfl⟩
  | cons x xs ih =>
    obtain ⟨v, vs', f1, f2, ev, h1, h2, ef⟩ := h
    subst ev
    have e := List.append_eq_nil_iff.mp ef.symm
    rw [e.1] at h1
    rw [e.2] at h2
    intro n
    cases n with
    | zero => exact ⟨rfl, rfl⟩
    | succ n => exact ⟨v, vs'.take n, [], [], rfl, h1, ih h2 n, rfl⟩
theorem repL_cut {xs : List D} {vs : List V} (h : RepL K cA H Z xs vs []) (lo hi : Option Int) : RepL K cA H Z (cutD xs lo hi) (cutV vs lo hi) [] := by
  unfold cutD cutV
  rw [repL_len h]
  exact repL_take (repL_drop h _) _
abbrev rSlDD (K : PySem.W.Frag) : V → Option Int → Option Int → Hp → VK → Prop := fun x lo hi H Q => rSlL K x lo hi H Q ∨ rSlN K x lo hi H Q ∨ rSlS x lo hi H Q
theorem sl_rep {x d : D} {v1 : V} {f1 : FP} {lo hi : Option Int} {Q : VK} (h1 : RepD K cA H Z x v1 f1) (w : Wf H Z []) (hg : gSl x lo hi = some d) (q : ∀ v H' Z' fp, RepD K cA H' Z' d v fp → Wf H' Z' fp → Fr H Z [] H' Z' fp → Q v H') : rSlDD K v1 lo hi H Q := by
  unfold gSl at hg
  split at hg
  · rename_i o xs
    split at hg
    · rename_i hf
      cases hg
      obtain ⟨p, vs, g, rfl, e1, r1, _⟩ := rep_lst h1
      refine .inl ⟨p, vs, rfl, SqL.of e1, fun p0 hp => ?_⟩
      obtain ⟨a, b, c⟩ := new_lst w (repL_cut (repL_fl r1 hf) lo hi) hp
      exact q _ _ _ _ a b c
    · cases hg
  · rename_i o xs
    split at hg
    · rename_i hf
      cases hg
      obtain ⟨p, vs, rfl, e1, r1, _⟩ := rep_scr h1
      refine .inl ⟨p, vs, rfl, e1, fun p0 hp => ?_⟩
      obtain ⟨a, b, c⟩ := new_lst w (repL_cut r1 lo hi) hp
      exact q _ _ _ _ a b c
    · cases hg
  · rename_i o xs
    cases hg
    obtain ⟨p, vs, rfl, e1, r1, _, _, c1⟩ := rep_tup h1
    have rc := repL_cut r1 lo hi
    refine .inr (.inl ⟨p, vs, rfl, e1, fun e => ?_, fun _ p0 ob hp ho => ?_⟩)
    · have hv : cutV vs lo hi = vs := by
        unfold cutV
        rw [e.1, e.2, List.drop_zero, Nat.sub_zero, List.take_length]
      rw [hv] at rc
      exact q _ H Z [] ⟨p, vs, [], rfl, rc, ⟨rfl, c1⟩, rfl, fun _ => rfl⟩ w Fr.refl
    · obtain ⟨a, b, c⟩ := new_tup w rc hp ho
      exact q _ _ _ _ a b c
  · rename_i s
    split at hg
    · rename_i hs
      cases hg
      obtain ⟨e1, _⟩ := h1
      subst e1
      exact .inr (.inr ⟨s, rfl, cap_le hs, q _ H Z [] ⟨rfl, rfl⟩ w Fr.refl⟩)
    · cases hg
  · cases hg
end
def dPart : Option (Env → Out D) → Env → Out (Option Int)
  | none, ρ => .ok none ρ
  | some f, ρ => match f ρ with
    | .ok (.a (.int i)) ρ1 => .ok (some i) ρ1
    | .ok _ _ => .st
    | .ex e ρ1 => .ex e ρ1
    | .st => .st
def dSl (fa : Env → Out D) (lo hi : Option (Env → Out D)) : Env → Out D := fun ρ => match fa ρ with
  | .ok x ρ1 => (match dPart lo ρ1 with
    | .ok l ρ2 => (match dPart hi ρ2 with
      | .ok u ρ3 => (match gSl x l u with
        | some d => .ok d ρ3
        | none => .st)
      | .ex e ρ3 => .ex e ρ3
      | .st => .st)
    | .ex e ρ2 => .ex e ρ2
    | .st => .st)
  | .ex e ρ1 => .ex e ρ1
  | .st => .st
section
variable {X : Cx} {cA : Str → Addr} {W : WX} {fa fb : Env → Out D} {a b : Expr} {pos : Pos}
def PostO (K : PySem.W.Frag) (cA : Str → Addr) (W : WX) (σ : L2.St) (H : Hp) (Z : ZS) (L : FP) (Q : Option Int → Hp → Prop) : Out (Option Int) → Prop
  | .ok d ρ' => ∀ H' Z' L', RelL K cA H' Z' ρ' σ L' → Wf H' Z' L' → Fr H Z L H' Z' L' → Q d H'
  | .ex e ρ' => ∀ cls d H' Z' L', RelL K cA H' Z' ρ' σ L' → Wf H' Z' L' → ExR cA H' Z' e cls d → Fr H Z L H' Z' L' → W cls d σ H'
  | .st => False
def TOof (K : PySem.W.Frag) (cA : Str → Addr) (W : WX) (f : Env → Out (Option Int)) : TO := fun σ H Q => ∃ Z L ρ, RelL K cA H Z ρ σ L ∧ Wf H Z L ∧ PostO K cA W σ H Z L Q (f ρ)
def DO (X : Cx) (cA : Str → Addr) (W : WX) (f : Option (Env → Out D)) (e : Option Expr) : Prop := ∃ t, PO X e t ∧ ∀ σ H Q, TOof X.K cA W (dPart f) σ H Q → t σ H Q
theorem do_none : DO X cA W none none := ⟨_, po_none, fun σ H Q ⟨Z, L, ρ, r, w, p⟩ => p H Z L r w Fr.refl⟩
theorem do_some (h : DE X cA W fa a) : DO X cA W (some fa) (some a) := ⟨_, po_some h, fun σ H Q ⟨Z, L, ρ, r, w, p⟩ => by
  refine ⟨Z, L, ρ, r, w, ?_⟩
  unfold dPart at p
  dsimp only at p
  cases ha : fa ρ with
  | st => rw [ha] at p; exact p.elim
  | ex e ρ' => rw [ha] at p; exact p
  | ok x ρ1 =>
    rw [ha] at p
    intro v H1 Z1 L1 f1 r1 w1 h1 F1
    cases x with
    | n k o xs => exact p.elim
    | a x =>
      cases x with
      | int i =>
        obtain ⟨e1, e2⟩ := h1
        subst e1 e2
        exact ⟨i, rfl, p H1 Z1 L1 r1 w1 F1⟩
      | non => exact p.elim
      | bl b => exact p.elim
      | str s => exact p.elim⟩
theorem de_slice {lo hi : Option (Env → Out D)} {elo ehi : Option Expr} {p2 : Pos} (ha : DE X cA W fa a) (hl : DO X cA W lo elo) (hu : DO X cA W hi ehi) : DE X cA W (dSl fa lo hi) (.Subscript a (.Slice elo ehi none p2) pos) := by
  obtain ⟨tl, pl, il⟩ := hl
  obtain ⟨th, pu, iu⟩ := hu
  refine de_of (pe_slice (sl_list.or (sl_tupN.or sl_str)) ha pl pu) fun σ H Q Z L ρ r w p => ?_
  refine ⟨Z, L, ρ, r, w, ?_⟩
  unfold dSl at p
  cases ha' : fa ρ with
  | st => rw [ha'] at p; exact p
  | ex e ρ' => rw [ha'] at p; exact p
  | ok x ρ1 =>
    rw [ha'] at p
    intro v H1 Z1 L1 f1 r1 w1 h1 F1
    dsimp only at p
    refine il σ H1 _ ⟨Z1, L1, ρ1, r1, w1.less (List.sublist_append_right _ _), ?_⟩
    cases hl' : dPart lo ρ1 with
    | st => rw [hl'] at p; exact p
    | ex e ρ' => rw [hl'] at p; exact exw p (F1.less fun x m => by simp [m])
    | ok l ρ2 =>
      rw [hl'] at p
      intro H2 Z2 L2 r2 w2 F2
      dsimp only at p
      have w12 := w1.wait (repD_trk x h1) F2 w2
      have F12 := Fr.wait w1 F1 F2
      have h2 := repD_wait w1 h1 F2
      refine iu σ H2 _ ⟨Z2, L2, ρ2, r2, w2, ?_⟩
      cases hu' : dPart hi ρ2 with
      | st => rw [hu'] at p; exact p
      | ex e ρ' => rw [hu'] at p; exact exw p (F12.less fun x m => by simp [m])
      | ok u ρ3 =>
        rw [hu'] at p
        intro H3 Z3 L3 r3 w3 F3
        dsimp only at p
        have w13 := w12.wait (repD_trk x h2) F3 w3
        have F13 := Fr.wait w12 F12 F3
        have h3 := repD_wait w12 h2 F3
        cases hg : gSl x l u with
        | none => rw [hg] at p; exact p.elim
        | some d =>
          rw [hg] at p
          refine sl_rep h3 (wf0 w3) hg fun v H4 Z4 fp h4 w4 F4 => ?_
          obtain ⟨r5, w5, F5⟩ := hand0 w3 r3 F4 w4
          exact p v H4 Z4 L3 fp r5 w5 h4 ((F13.less fun x m => by simp [m]).trans F5)
theorem repL_rev {K : PySem.W.Frag} {H : Hp} {Z : ZS} : ∀ {xs : List D} {vs : List V}, RepL K cA H Z xs vs [] → RepL K cA H Z xs.reverse vs.reverse []
  | [], vs, h => by rw [h.1]; exact ⟨rfl, rfl⟩
  | x :: xs, vs, h => by
    obtain ⟨v, vs', f1, f2, ev, h1, h2, ef⟩ := h
    have e := List.append_eq_nil_iff.mp ef.symm
    rw [e.1] at h1
    rw [e.2] at h2
    subst ev
    rw [List.reverse_cons, List.reverse_cons]
    exact repL_append (repL_rev h2) (repL_one h1)
end
end DL
namespace DL
open PySem L2
def RepIo (K : PySem.W.Frag) (cA : Str → Addr) (H : Hp) (Z : ZS) : Option Nat → Option D → List V → FP → Prop
  | some k, some d, vs, g => ∃ v, vs[k]? = some v ∧ RepD K cA H Z d v g
  | _, _, _, g => g = []
def PostF (K : PySem.W.Frag) (cA : Str → Addr) (kio : Option Nat) (vs : List V) (H : Hp) (Z : ZS) (L : FP) (Q : VK) (E : XK) : FR → Prop
  | .rt d io => ∀ v H' Z' fp g, RepIo K cA H' Z' kio io vs g → RepD K cA H' Z' d v fp → Wf H' Z' (fp ++ g) → Fr H Z L H' Z' (fp ++ g) → Q v H'
  | .ex e io => ∀ cls d H' Z' g, RepIo K cA H' Z' kio io vs g → Wf H' Z' g → ExR cA H' Z' e cls d → Fr H Z L H' Z' g → E cls d H'
  | .st => False
def spF (K : PySem.W.Frag) (cA : Str → Addr) (n : Nat) (kio : Option Nat) (F : List D → FR) : Sp := fun vs H Q E => vs.length = n ∧ ∃ ds Z L, RepL K cA H Z ds vs L ∧ Wf H Z L ∧ PostF K cA kio vs H Z L Q E (F ds)
def ioOf (kio : Option Nat) (ρ : Env) : Option D := match kio with
  | some k => (match ρ[k]? with
    | some (some d) => some d
    | _ => none)
  | none => none
def fnD (n : Nat) (kio : Option Nat) (body : Env → Fl) : List D → FR := fun ds => match body (ds.map some ++ List.replicate (n - ds.length) none) with
  | .nx ρ => .rt .non (ioOf kio ρ)
  | .rt d ρ => .rt d (ioOf kio ρ)
  | .ex e ρ => .ex e (ioOf kio ρ)
  | _ => .st
section
variable {K : PySem.W.Frag} {cA : Str → Addr}
theorem relL_nones {H : Hp} {Z : ZS} : ∀ n : Nat, RelL K cA H Z (List.replicate n none) (List.replicate n none) []
  | 0 => ⟨rfl, rfl⟩
  | n + 1 => ⟨none, _, rfl, relL_nones n⟩
theorem relL_start {H : Hp} {Z : ZS} {n : Nat} : ∀ {ds : List D} {vs : List V} {L : FP}, RepL K cA H Z ds vs L → RelL K cA H Z (ds.map some ++ List.replicate n none) (vs.map some ++ List.replicate n none) L
  | [], vs, L, h => by
    rw [h.1, h.2]
    exact relL_nones n
  | d :: ds, vs, L, h => by
    obtain ⟨v, vs', f1, f2, ev, h1, h2, ef⟩ := h
    subst ev
    exact ⟨v, _, f1, f2, rfl, h1, relL_start h2, ef⟩
theorem io_end {H : Hp} {Z : ZS} {kio : Option Nat} {ρ : Env} {σ0 σ : L2.St} {L : FP} {vs : List V} {n : Nat} (r : RelL K cA H Z ρ σ L) (pn : Pin kio (vs.map some ++ List.replicate n none) σ) : ∃ g, g.Sublist L ∧ RepIo K cA H Z kio (ioOf kio ρ) vs g := by
  cases kio with
  | none => exact ⟨[], List.nil_sublist _, rfl⟩
  | some k =>
    unfold ioOf
    dsimp only
    cases hk : ρ[k]? with
    | none => exact ⟨[], List.nil_sublist _, rfl⟩
    | some o =>
      cases o with
      | none => exact ⟨[], List.nil_sublist _, rfl⟩
      | some d =>
        obtain ⟨v, f0, f1, f2, hv, hr, ef, _, _⟩ := relL_at r hk
        have hp := pn k rfl
        rw [hv] at hp
        refine ⟨f1, ?_, v, ?_, hr⟩
        · rw [ef]
          exact (List.sublist_append_right f0 f1).trans (List.sublist_append_left _ _)
        · by_cases hl : k < vs.length
          · rw [List.getElem?_append_left (by simpa using hl), List.getElem?_map] at hp
            cases hq : vs[k]? with
            | none => rw [hq] at hp; cases hp
            | some u => rw [hq] at hp; cases hp; rfl
          · rw [List.getElem?_append_right (by simpa using hl), List.getElem?_replicate] at hp
            split at hp <;> cases hp
theorem wf_sub2 {H : Hp} {Z : ZS} {fp L g : FP} (w : Wf H Z (fp ++ L)) (h : g.Sublist L) : Wf H Z (fp ++ g) := w.less ((List.Sublist.refl fp).append h)
theorem fr_sub2 {H H' : Hp} {Z Z' : ZS} {L0 fp L g : FP} (f : Fr H Z L0 H' Z' (fp ++ L)) (h : g.Sublist L) : Fr H Z L0 H' Z' (fp ++ g) := f.less fun x m => by
  rcases List.mem_append.mp m with m | m
  · simp [m]
  · simp [h.subset m]
end
section
variable {P : Program} {w : World} {K : PySem.W.Frag} {cA : Str → Addr} {mg : Str → Option Value} {base : Heap}
end
def dCall (n : Nat) (F : List D → FR) (g : Env → Out (List Ag)) : Env → Out D := fun ρ => match g ρ with
  | .ok ds ρ1 => (match agL ds with
    | some xs => if xs.length = n then (match F (frzL xs) with
      | .rt d _ => .ok d ρ1
      | .ex e _ => .ex e ρ1
      | .st => .st) else .st
    | none => .st)
  | .ex e ρ1 => .ex e ρ1
  | .st => .st
def agL1 : List Ag → Option (List D × Nat × List D)
  | [] => none
  | .d x :: xs => (agL1 xs).map fun p => (x :: p.1, p.2)
  | .s i :: xs => (agL xs).map fun p => ([], i, p)
def dCallL (n : Nat) (kio : Option Nat) (F : List D → FR) (g : Env → Out (List Ag)) : Env → Out D := fun ρ => match g ρ with
  | .ok ds ρ1 => (match agL1 ds with
    | some (xs, i, ys) => (match ρ1[i]? with
      | some (some d0) => if kio = some xs.length ∧ xs.length + (ys.length + 1) = n then (match F (frzL xs ++ (d0 :: frzL ys)) with
        | .rt d (some d1) => .ok d (ρ1.set i (some d1))
        | .ex e (some d1) => .ex e (ρ1.set i (some d1))
        | _ => .st) else .st
      | _ => .st)
    | none => .st)
  | .ex e ρ1 => .ex e ρ1
  | .st => .st
def dCall0 (F : List D → FR) : Env → Out D := fun ρ => match F [] with
  | .rt d _ => .ok d ρ
  | .ex e _ => .ex e ρ
  | .st => .st
section
variable {X : Cx} {cA : Str → Addr} {W : WX} {g : Env → Out (List Ag)}
theorem call_in {K : PySem.W.Frag} {n : Nat} {kio : Option Nat} {F : List D → FR} {σ : L2.St} {H H1 : Hp} {Z Z1 : ZS} {L L1 f1 : FP} {ρ1 : Env} {xs : List D} {vs : List V} {Q : VK} (hn : xs.length = n)
    (r1 : RelL K cA H1 Z1 ρ1 σ L1) (w1 : Wf H1 Z1 (f1 ++ L1)) (hL : RepL K cA H1 Z1 xs vs f1) (F1 : Fr H Z L H1 Z1 (f1 ++ L1))
    (p : PostE K cA W σ H Z L Q (match F (frzL xs) with | .rt d _ => .ok d ρ1 | .ex e _ => .ex e ρ1 | .st => .st)) : spF K cA n kio F vs H1 Q (WE W σ) := by
  have wz := w1.freeze (repL_trk xs hL)
  have hf := repL_zu hL
  refine ⟨by rw [repL_len hL]; exact hn, frzL xs, ZU Z1 f1, [], hf, wf0 wz, ?_⟩
  have F1z := F1.freeze
  cases hF : F (frzL xs) with
  | st => rw [hF] at p; exact p
  | rt d io =>
    rw [hF] at p
    intro v H2 Z2 fp g' ri h2 w2 F2
    have F2' : Fr H1 (ZU Z1 f1) [] H2 Z2 fp := F2.less fun x m => by simp [m]
    obtain ⟨r3, w3, F3⟩ := hand0 wz (relL_zu r1) F2' (w2.less (List.sublist_append_left _ _))
    exact p v H2 Z2 L1 fp r3 w3 h2 (F1z.trans F3)
  | ex e io =>
    rw [hF] at p
    intro cls d H2 Z2 g' ri w2 x2 F2
    have F2' : Fr H1 (ZU Z1 f1) [] H2 Z2 [] := F2.less fun x m => nomatch m
    obtain ⟨r3, w3, F3⟩ := hand0 wz (relL_zu r1) F2' (wf0 w2)
    exact p cls d H2 Z2 L1 r3 w3 x2 (F1z.trans F3)
theorem te_call {K : PySem.W.Frag} {n : Nat} {kio : Option Nat} {F : List D → FR} : ∀ σ H Q, TEof K cA W (dCall n F g) σ H Q → tCallS (spF K cA n kio F) (WE W) (TAof K cA W g) σ H Q := by
  rintro σ H Q ⟨Z, L, ρ, r, w, p⟩
  refine ⟨Z, L, ρ, r, w, ?_⟩
  unfold dCall at p
  cases ha : g ρ with
  | st => rw [ha] at p; exact p
  | ex e ρ' => rw [ha] at p; exact p
  | ok ds ρ1 =>
    rw [ha] at p
    intro vs H1 Z1 L1 f1 r1 w1 h1 F1
    dsimp only at p
    split at p
    · rename_i xs hx
      split at p
      · rename_i hn
        exact call_in hn r1 w1 (repA_L hx h1) F1 p
      · exact p.elim
    · exact p.elim
theorem te_callL {K : PySem.W.Frag} {n : Nat} {kio : Option Nat} {F : List D → FR} : ∀ σ H Q, TEof K cA W (dCallL n kio F g) σ H Q → tCallS (spF K cA n kio F) (WE W) (TAof K cA W g) σ H Q := by
  rintro σ H Q ⟨Z, L, ρ, r, w, p⟩
  refine ⟨Z, L, ρ, r, w, ?_⟩
  unfold dCallL at p
  cases ha : g ρ with
  | st => rw [ha] at p; exact p
  | ex e ρ' => rw [ha] at p; exact p
  | ok ds ρ1 =>
    rw [ha] at p
    intro vs H1 Z1 L1 f1 r1 w1 h1 F1
    dsimp only at p
    split at p
    · rename_i xs i ys hx
      split at p
      · rename_i d0 hd0
        split at p
        · rename_i hk
          obtain ⟨hk, hn⟩ := hk
          -- the arguments apart
          have key : ∀ {ds : List Ag} {xs ys : List D} {vs : List V} {fp : FP}, agL1 ds = some (xs, i, ys) → RepA K cA H1 Z1 σ ds vs fp → ∃ us v ws g1 g2, vs = us ++ v :: ws ∧ RepL K cA H1 Z1 xs us g1 ∧ RepL K cA H1 Z1 ys ws g2 ∧ σ[i]? = some (some v) ∧ fp = g1 ++ g2 := by
            intro ds
            induction ds with
            | nil => intro xs ys vs fp e; simp [agL1] at e
            | cons a ds ih =>
              intro xs ys vs fp e h
              cases a with
              | d x =>
                obtain ⟨v, vs', f1, f2, ev, h1, h2, ef⟩ := h
                unfold agL1 at e
                cases hd : agL1 ds with
                | none => rw [hd] at e; cases e
                | some q =>
                  obtain ⟨q1, q2, q3⟩ := q
                  rw [hd] at e
                  cases e
                  obtain ⟨us, v', ws, g1, g2, e1, r1, r2, hv, e2⟩ := ih hd h2
                  exact ⟨v :: us, v', ws, f1 ++ g1, g2, by rw [ev, e1]; rfl, ⟨v, us, f1, g1, rfl, h1, r1, rfl⟩, r2, hv, by rw [ef, e2]; simp⟩
              | s j =>
                obtain ⟨v, vs', ev, hv, h2⟩ := h
                unfold agL1 at e
                cases hd : agL ds with
                | none => rw [hd] at e; cases e
                | some q =>
                  rw [hd] at e
                  cases e
                  exact ⟨[], v, vs', [], fp, by rw [ev]; rfl, ⟨rfl, rfl⟩, repA_L hd h2, hv, rfl⟩
          obtain ⟨us, v, ws, g1, g2, ev, hx1, hx2, hv, ef⟩ := key hx h1
          subst ev ef
          have tr : ∀ a ∈ g1 ++ g2, ∃ o, H1 a = some o := fun a m => (List.mem_append.mp m).elim (repL_trk _ hx1 a) (repL_trk _ hx2 a)
          have wz := w1.freeze tr
          have r1z : RelL K cA H1 (ZU Z1 (g1 ++ g2)) ρ1 σ L1 := relL_zu r1
          obtain ⟨v', f0, fd, f2, hv', hr, eL, put, cut⟩ := relL_at r1z hd0
          rw [hv] at hv'
          cases hv'
          have m1 : RepL K cA H1 (ZU Z1 (g1 ++ g2)) (frzL xs) us [] := repL_frz xs zu_sub (fun a m => .inr (by simp [m])) hx1
          have m2 : RepL K cA H1 (ZU Z1 (g1 ++ g2)) (frzL ys) ws [] := repL_frz ys zu_sub (fun a m => .inr (by simp [m])) hx2
          have hall : RepL K cA H1 (ZU Z1 (g1 ++ g2)) (frzL xs ++ (d0 :: frzL ys)) (us ++ v :: ws) fd := by
            have := repL_append m1 (ys := d0 :: frzL ys) (ws := v :: ws) (g := fd) ⟨v, ws, fd, [], rfl, hr, m2, by simp⟩
            simpa using this
          have lu : us.length = xs.length := repL_len hx1
          have lw : ws.length = ys.length := repL_len hx2
          -- the lent footprint is handed over, the rest waits
          have wzp : Wf H1 (ZU Z1 (g1 ++ g2)) ((f0 ++ f2) ++ fd) := by
            rw [eL] at wz
            refine wz.perm ?_
            rw [List.append_assoc, List.append_assoc]
            exact List.Perm.append_left _ List.perm_append_comm
          have cut1 := cut (H' := H1) (Z' := ZU Z1 (g1 ++ g2)) (fun _ z => z) (fun _ _ _ e => e)
          refine ⟨by simp [lu, lw]; omega, _, _, fd, hall, wzp.less (List.sublist_append_right _ _), ?_⟩
          have F1z : Fr H Z L H1 (ZU Z1 (g1 ++ g2)) L1 := F1.freeze
          have subL : ∀ x ∈ (f0 ++ f2) ++ fd, x ∈ L1 := fun x m => by rw [eL]; simp at m ⊢; rcases m with m | m | m <;> simp [m]
          have back : ∀ {H2 Z2 d1 M fp0} {g' : FP}, RepIo K cA H2 Z2 kio (some d1) (us ++ v :: ws) g' → Wf H2 Z2 (fp0 ++ g') → Fr H1 (ZU Z1 (g1 ++ g2)) fd H2 Z2 (fp0 ++ g') → M = f0 ++ g' ++ f2 →
              RelL K cA H2 Z2 (ρ1.set i (some d1)) σ M ∧ Wf H2 Z2 (fp0 ++ M) ∧ Fr H Z L H2 Z2 (fp0 ++ M) := by
            intro H2 Z2 d1 M fp0 g' ri w2 F2 eM
            subst eM hk
            obtain ⟨v2, hv2, hd1⟩ := ri
            rw [List.getElem?_append_right (by omega), lu, Nat.sub_self] at hv2
            cases hv2
            have w3 := wzp.wait (relL_trk cut1) F2 w2
            have F3 := ((F1z.less subL).wait wzp F2)
            have nd := List.nodup_append.mp wzp.nd
            have hset : σ.set i (some v) = σ := by
              apply List.ext_getElem?
              intro j
              by_cases hj : i = j
              · subst hj
                rw [hv]
                have hl : i < σ.length := (List.getElem?_eq_some_iff.mp hv).1
                rw [List.getElem?_set_self hl]
              · rw [List.getElem?_set_ne hj]
            have pr := put (H' := H2) (Z' := Z2) (d' := d1) (v' := v) (g := g') F2.zm (fun a o m e => F2.keep a o e fun q => by
              rcases m with m | m | m
              · exact (wzp.dj a (by simp [q])) m
              · exact nd.2.2 a (by simp [m]) a q rfl
              · exact nd.2.2 a (by simp [m]) a q rfl) hd1
            rw [hset] at pr
            have pm : ((f0 ++ f2) ++ (fp0 ++ g')).Perm (fp0 ++ (f0 ++ g' ++ f2)) := by
              refine (List.perm_append_comm_assoc (f0 ++ f2) fp0 g').trans (List.Perm.append_left fp0 ?_)
              rw [List.append_assoc, List.append_assoc]
              exact List.Perm.append_left f0 List.perm_append_comm
            exact ⟨pr, w3.perm pm, F3.less fun x m => pm.mem_iff.mpr m⟩
          cases hF : F (frzL xs ++ (d0 :: frzL ys)) with
          | st => rw [hF] at p; exact p.elim
          | rt d io =>
            rw [hF] at p
            cases io with
            | none => exact p.elim
            | some d1 =>
              intro v2 H2 Z2 fp g' ri h2 w2 F2
              obtain ⟨b1, b2, b3⟩ := back ri w2 F2 rfl
              exact p v2 H2 Z2 _ fp b1 b2 h2 b3
          | ex e io =>
            rw [hF] at p
            cases io with
            | none => exact p.elim
            | some d1 =>
              intro cls d H2 Z2 g' ri w2 x2 F2
              obtain ⟨b1, b2, b3⟩ := back (fp0 := []) ri w2 F2 rfl
              exact p cls d H2 Z2 _ b1 b2 x2 b3
        · exact p.elim
      · exact p.elim
    · exact p.elim
section
variable {k n : Nat} {kio : Option Nat} {f : Addr} {fd : FuncData} {ps : List Str} {F : List D → FR} {x : Str} {p pos : Pos} {e : Expr} {es : List Expr}
theorem de_call (Fo : FnOk X.prog X.w X.K X.mg X.base (L2.CX X.prog X.w) k f fd ps (spF X.K cA n kio F)) (hr : Room k X.A)
    (hg : Gl X x) (hm : X.mg x = some (.ref f)) (hk : PySem.W.keepIn X.K (.ref f) = true) (hb : Binds X.K fd ps []) (tk : Takes X W) (ha : DA X cA W g (e :: es))
    (hdb : (x == ("__debug__" : Str)) = false := by kernel_rfl) (he : starEach (e :: es) X.env = (false, eval e X.env) :: starEach es X.env := by kernel_rfl) (hpl : (backTo pos (starEach es X.env)).any (·.1) = false := by kernel_rfl) :
    DE X cA W (dCall n F g) (.Call (.Name x p) (e :: es) [] pos) := PE.imp (pe_callS Fo hr hg hm hk hb (passAt tk) ha hdb he hpl) te_call
theorem de_callL (Fo : FnOk X.prog X.w X.K X.mg X.base (L2.CX X.prog X.w) k f fd ps (spF X.K cA n kio F)) (hr : Room k X.A)
    (hg : Gl X x) (hm : X.mg x = some (.ref f)) (hk : PySem.W.keepIn X.K (.ref f) = true) (hb : Binds X.K fd ps []) (tk : Takes X W) (ha : DA X cA W g (e :: es))
    (hdb : (x == ("__debug__" : Str)) = false := by kernel_rfl) (he : starEach (e :: es) X.env = (false, eval e X.env) :: starEach es X.env := by kernel_rfl) (hpl : (backTo pos (starEach es X.env)).any (·.1) = false := by kernel_rfl) :
    DE X cA W (dCallL n kio F g) (.Call (.Name x p) (e :: es) [] pos) := PE.imp (pe_callS Fo hr hg hm hk hb (passAt tk) ha hdb he hpl) te_callL
end
end
end DL
namespace DL
open PySem L2
theorem Pin.refl {k : Option Nat} {σ : L2.St} : Pin k σ σ := fun _ _ => rfl
theorem Pin.trans {k : Option Nat} {σ σ1 σ2 : L2.St} (a : Pin k σ σ1) (b : Pin k σ1 σ2) : Pin k σ σ2 := fun i e => (b i e).trans (a i e)
theorem Pin.set {k : Option Nat} {σ : L2.St} {i : Nat} {v : Option V} (h : k ≠ some i) : Pin k σ (σ.set i v) := fun j e => by
  have : i ≠ j := fun z => h (by rw [z]; exact e)
  rw [List.getElem?_set_ne this]
section
variable {K : PySem.W.Frag} {cA : Str → Addr} {W : WX} {k : Option Nat}
theorem postS_tr {σ σ1 : L2.St} {H H1 : Hp} {Z Z1 : ZS} {L L1 : FP} {T : Ends} {o : Fl} (F : Fr H Z L H1 Z1 L1) (pn : Pin k σ σ1) (p : PostS K cA W k σ H Z L T o) : PostS K cA W k σ1 H1 Z1 L1 T o := by
  cases o with
  | st => exact p
  | nx ρ' => exact fun σ' H' Z' L' r w f q => p σ' H' Z' L' r w (F.trans f) (pn.trans q)
  | bk ρ' => exact fun σ' H' Z' L' r w f q => p σ' H' Z' L' r w (F.trans f) (pn.trans q)
  | ct ρ' => exact fun σ' H' Z' L' r w f q => p σ' H' Z' L' r w (F.trans f) (pn.trans q)
  | rt d ρ' => exact fun v σ' H' Z' L' fp r w h f q => p v σ' H' Z' L' fp r w h (F.trans f) (pn.trans q)
  | ex e ρ' => exact fun cls d σ' H' Z' L' r w x f q => p cls d σ' H' Z' L' r w x (F.trans f) (pn.trans q)
theorem post_es {σ : L2.St} {H : Hp} {Z : ZS} {L : FP} {T : Ends} {e : Exn} {ρ' : Env} (p : PostS K cA W k σ H Z L T (.ex e ρ')) :
    ∀ cls d H' Z' L', RelL K cA H' Z' ρ' σ L' → Wf H' Z' L' → ExR cA H' Z' e cls d → Fr H Z L H' Z' L' → W cls d σ H' := fun cls d H' Z' L' r w x f => p cls d σ H' Z' L' r w x f Pin.refl
end
def dNext : Env → Fl := fun ρ => .nx ρ
@[irreducible] def dSeq (f g : Env → Fl) : Env → Fl := fun ρ => match f ρ with
  | .nx ρ1 => g ρ1
  | o => o
def dBreak : Env → Fl := fun ρ => .bk ρ
def dCont : Env → Fl := fun ρ => .ct ρ
section
variable {X : Cx} {cA : Str → Addr} {W : WX} {k : Option Nat} {f g : Env → Fl} {st : Stmt} {rest : List Stmt} {pos : Pos}
theorem dss_nil : DSs X cA W k dNext [] := dss_of pss_nil fun D σ H Z L ρ r w p => p σ H Z L r w Fr.refl Pin.refl
theorem dss_one (h : DS X cA W k f st) : DSs X cA W k f [st] := pss_one h
theorem dss_cons (h : DS X cA W k f st) (h2 : DSs X cA W k g rest) : DSs X cA W k (dSeq f g) (st :: rest) := dss_of (pss_cons h h2) fun D σ H Z L ρ r w p => by
  refine ⟨Z, L, ρ, r, w, ?_⟩
  unfold dSeq at p
  cases hf : f ρ with
  | nx ρ1 =>
    rw [hf] at p
    exact fun σ1 H1 Z1 L1 r1 w1 F1 q1 => ⟨Z1, L1, ρ1, r1, w1, postS_tr F1 q1 p⟩
  | st => rw [hf] at p; exact p
  | bk ρ1 => rw [hf] at p; exact p
  | ct ρ1 => rw [hf] at p; exact p
  | rt d ρ1 => rw [hf] at p; exact p
  | ex e ρ1 => rw [hf] at p; exact p
end
def dBind (f : Env → Out D) (h : D → Env → Fl) : Env → Fl := fun ρ => match f ρ with
  | .ok d ρ1 => h d ρ1
  | .ex e ρ1 => .ex e ρ1
  | .st => .st
section
variable {X : Cx} {cA : Str → Addr} {W : WX} {k : Option Nat} {f : Env → Out D} {e : Expr} {pos : Pos} {te : TE}
theorem bind_te {K : PySem.W.Frag} {σ : L2.St} {H : Hp} {Z : ZS} {L : FP} {ρ : Env} {T : Ends} {h : D → Env → Fl} {Q : VK} (r : RelL K cA H Z ρ σ L) (w : Wf H Z L) (p : PostS K cA W k σ H Z L T (dBind f h ρ))
    (n : ∀ d ρ1 v H1 Z1 L1 fp, f ρ = .ok d ρ1 → RelL K cA H1 Z1 ρ1 σ L1 → Wf H1 Z1 (fp ++ L1) → RepD K cA H1 Z1 d v fp → Fr H Z L H1 Z1 (fp ++ L1) → PostS K cA W k σ H Z L T (h d ρ1) → Q v H1) : TEof K cA W f σ H Q := by
  refine ⟨Z, L, ρ, r, w, ?_⟩
  unfold dBind at p
  cases hf : f ρ with
  | st => rw [hf] at p; exact p
  | ex e ρ1 => rw [hf] at p; exact post_es p
  | ok d ρ1 =>
    rw [hf] at p
    exact fun v H1 Z1 L1 fp r1 w1 h1 F1 => n d ρ1 v H1 Z1 L1 fp hf r1 w1 h1 F1 p
theorem ds_expr (he : DE X cA W f e) (hs : swapsWith e none pos.line X.env = pure false := by kernel_rfl) : DS X cA W k (dBind f fun _ ρ => .nx ρ) (.Expr e pos) :=
  ds_of (ps_expr he hs) fun D σ H Z L ρ r w p => bind_te r w p fun d ρ1 v H1 Z1 L1 fp hd r1 w1 h1 F1 p => p σ H1 Z1 L1 r1 (w1.less (List.sublist_append_right _ _)) (F1.less fun x m => by simp [m]) Pin.refl
theorem ds_ret (he : DE X cA W f e) : DS X cA W k (dBind f fun d ρ => .rt d ρ) (.Return (some e) pos) :=
  ds_of (ps_ret he) fun D σ H Z L ρ r w p => bind_te r w p fun d ρ1 v H1 Z1 L1 fp hd r1 w1 h1 F1 p => p v σ H1 Z1 L1 fp r1 w1 h1 F1 Pin.refl
def dRetMv (i : Nat) : Env → Fl := fun ρ => match ρ[i]? with
  | some (some d) => .rt d (ρ.set i none)
  | _ => .st
theorem ds_retMv {i : Nat} (he : PE X e (tVar i)) : DS X cA W k (dRetMv i) (.Return (some e) pos) := ds_of (ps_ret he) fun D σ H Z L ρ r w p => by
  unfold dRetMv at p
  split at p
  · rename_i d hd
    obtain ⟨v, f0, f1, f2, hv, hr, ef, _, cut⟩ := relL_at r hd
    have pm : L.Perm (f1 ++ (f0 ++ f2)) := by
      rw [ef, List.append_assoc]
      exact (List.perm_append_comm_assoc f0 f1 f2)
    exact ⟨v, hv, p v σ H Z (f0 ++ f2) f1 (cut (fun _ z => z) (fun _ _ _ e => e)) (w.perm pm) hr (Fr.refl.less fun x m => pm.mem_iff.mpr m) Pin.refl⟩
  · exact p.elim
def dIf (t : Env → Out Bool) (f g : Env → Fl) : Env → Fl := fun ρ => match t ρ with
  | .ok true ρ1 => f ρ1
  | .ok false ρ1 => g ρ1
  | .ex e ρ1 => .ex e ρ1
  | .st => .st
theorem ds_if {c : Expr} {a b : List Stmt} {t : Env → Out Bool} {ff gg : Env → Fl} (hc : DT X cA W t c) (ha : DSs X cA W k ff a) (hb : DSs X cA W k gg b) : DS X cA W k (dIf t ff gg) (.If c a b pos) := ds_of (ps_if hc ha hb) fun D σ H Z L ρ r w p => by
  refine ⟨Z, L, ρ, r, w, ?_⟩
  unfold dIf at p
  cases ht : t ρ with
  | st => rw [ht] at p; exact p
  | ex e ρ1 => rw [ht] at p; exact post_es p
  | ok b ρ1 =>
    rw [ht] at p
    intro H1 Z1 L1 r1 w1 F1
    cases b with
    | true => exact ⟨Z1, L1, ρ1, r1, w1, postS_tr F1 Pin.refl p⟩
    | false => exact ⟨Z1, L1, ρ1, r1, w1, postS_tr F1 Pin.refl p⟩
def dNo : Env → Fl := fun _ => .st
def stSet (i : Nat) (d : D) (ρ : Env) : Fl := if i < ρ.length then .nx (ρ.set i (some d)) else .st
theorem put_slot {K : PySem.W.Frag} {σ : L2.St} {H H1 : Hp} {Z Z1 : ZS} {L L1 fp : FP} {T : Ends} {ρ1 : Env} {i : Nat} {d : D} {v : V} (hk : k ≠ some i) (r1 : RelL K cA H1 Z1 ρ1 σ L1) (w1 : Wf H1 Z1 (fp ++ L1)) (h1 : RepD K cA H1 Z1 d v fp)
    (F1 : Fr H Z L H1 Z1 (fp ++ L1)) (p : PostS K cA W k σ H Z L T (stSet i d ρ1)) : T.nx (σ.set i (some v)) H1 := by
  unfold stSet at p
  split at p
  · rename_i hi
    obtain ⟨f0, f2, hs, q⟩ := relL_set r1 hi h1
    have pm : (fp ++ (f0 ++ f2)).Perm (f0 ++ fp ++ f2) := by
      rw [List.append_assoc]
      exact List.perm_append_comm_assoc fp f0 f2
    have w2 := (w1.less ((List.Sublist.refl fp).append hs)).perm pm
    exact p _ H1 Z1 _ q w2 (F1.less fun x m => by
      have := pm.mem_iff.mpr m
      rcases List.mem_append.mp this with z | z
      · simp [z]
      · simp [hs.subset z]) (Pin.set hk)
  · exact p.elim
theorem ds_set {i : Nat} {x : Str} {pos' : Pos} (hN : X.N.Nodup) (hi : X.N[i]? = some x) (hx : Loc X.env.scope x) (he : DE X cA W f e) (hk : k ≠ some i := by decide) (hs : swapsWith e (some (.Name x pos')) pos.line X.env = pure false := by kernel_rfl)
    (hf : X.fn x = true ∨ X.env.scope.names.lookup x = some .local := by first | exact .inl rfl | exact .inr rfl | assumption) : DS X cA W k (dBind f (stSet i)) (.Assign [.Name x pos'] e pos) :=
  ds_of (ps_set hN hi hx he hs hf) fun D σ H Z L ρ r w p => bind_te r w p fun d ρ1 v H1 Z1 L1 fp hd r1 w1 h1 F1 p => put_slot hk r1 w1 h1 F1 p
def But (ts : List Nat) (σ σ' : L2.St) : Prop := σ'.length = σ.length ∧ ∀ j, j ∉ ts → σ'[j]? = σ[j]?
theorem But.pin {ts : List Nat} {σ σ' : L2.St} (b : But ts σ σ') (h : ∀ i, k = some i → i ∉ ts) : Pin k σ σ' := fun i e => b.2 i (h i e)
theorem But.set {σ : L2.St} {i : Nat} {v : Option V} : But [i] σ (σ.set i v) := ⟨List.length_set .., fun j hj => by
  have : i ≠ j := fun z => hj (by simp [z])
  rw [List.getElem?_set_ne this]⟩
def TGof (K : PySem.W.Frag) (cA : Str → Addr) (ts : List Nat) (g : D → Env → Option Env) : TG := fun v σ H Q => ∃ d Z L ρ ρ', RelL K cA H Z ρ σ L ∧ Wf H Z L ∧ RepD K cA H Z d v [] ∧ g d ρ = some ρ' ∧
  ∀ σ' H' Z' L', RelL K cA H' Z' ρ' σ' L' → Wf H' Z' L' → Fr H Z L H' Z' L' → But ts σ σ' → Q σ' H'
def DG (X : Cx) (cA : Str → Addr) (ts : List Nat) (g : D → Env → Option Env) (tg : Expr) : Prop := PG X tg (TGof X.K cA ts g)
def tg1 (i : Nat) (d : D) (ρ : Env) : Option Env := if i < ρ.length then some (ρ.set i (some d)) else none
def tgL : List Nat → List D → Env → Option Env
  | [], [], ρ => some ρ
  | i :: is, d :: ds, ρ => if i < ρ.length then tgL is ds (ρ.set i (some d)) else none
  | _, _, _ => none
def tgT (is : List Nat) (d : D) (ρ : Env) : Option Env := match d with
  | .n .tup _ xs => tgL is xs ρ
  | _ => none
theorem PG.imp {tg : Expr} {t t' : TG} (h : PG X tg t) (i : ∀ v σ H Q, t' v σ H Q → t v σ H Q) : PG X tg t' := ⟨fun pins s σ H v u Q I r w => h.run pins s σ H v u Q I r (i v σ H Q w)⟩
theorem dg_name {i : Nat} {x : Str} (hN : X.N.Nodup) (hi : X.N[i]? = some x) (hx : Loc X.env.scope x) (hf : X.fn x = true ∨ X.env.scope.names.lookup x = some .local := by first | exact .inl rfl | exact .inr rfl | assumption) : DG X cA [i] (tg1 i) (.Name x pos) :=
  PG.imp (pg_name hN hi hx hf) fun v σ H Q ⟨d, Z, L, ρ, ρ', r, w, h, e, q⟩ => by
    unfold tg1 at e
    split at e
    · rename_i hl
      cases e
      obtain ⟨f0, f2, hs, q'⟩ := relL_set r hl h
      exact q _ H Z _ q' (w.less (by simpa using hs)) (Fr.refl.less fun x m => hs.subset (by simpa using m)) But.set
    · cases e
theorem tgL_len : ∀ {is : List Nat} {xs : List D} {ρ ρ' : Env}, tgL is xs ρ = some ρ' → xs.length = is.length
  | [], [], _, _, _ => rfl
  | [], a :: b, _, _, e => by simp [tgL] at e
  | i :: is, [], _, _, e => by simp [tgL] at e
  | i :: is, a :: b, ρ, ρ', e => by
    unfold tgL at e
    split at e
    · rw [List.length_cons, List.length_cons, tgL_len e]
    · cases e
inductive DGs (X : Cx) : List Nat → List Expr → Prop where
  | nil : DGs X [] []
  | cons {i : Nat} {x : Str} {pos : Pos} {is : List Nat} {es : List Expr} (h : PG X (.Name x pos) (gName i)) (t : DGs X is es)
      (hs : (assignEach (.Name x pos :: es) X.env).map (·.2) = assign (.Name x pos) X.env :: (assignEach es X.env).map (·.2)) : DGs X (i :: is) (.Name x pos :: es)
def gNames : List Nat → TGs
  | [] => gNil
  | i :: is => gCons (gName i) (gNames is)
theorem DGs.pgs : ∀ {is : List Nat} {es : List Expr}, DGs X is es → PGs X es (gNames is)
  | _, _, .nil => pgs_nil
  | _, _, .cons h t hs => pgs_cons h t.pgs hs
theorem names_ok {K : PySem.W.Frag} {Q : L2.St → Hp → Prop} {H : Hp} {Z : ZS} : ∀ {is : List Nat} {ds : List D} {vs : List V} {ρ ρ' : Env} {σ : L2.St} {L : FP}, RelL K cA H Z ρ σ L → Wf H Z L → RepL K cA H Z ds vs [] → tgL is ds ρ = some ρ' →
    (∀ σ' L', RelL K cA H Z ρ' σ' L' → Wf H Z L' → Fr H Z L H Z L' → But is σ σ' → Q σ' H) → gNames is vs σ H Q
  | [], [], vs, ρ, ρ', σ, L, r, w, h, e, q => by
    cases e
    exact ⟨h.1, q σ L r w Fr.refl ⟨rfl, fun _ _ => rfl⟩⟩
  | [], d :: ds, vs, ρ, ρ', σ, L, r, w, h, e, q => by simp [tgL] at e
  | i :: is, [], vs, ρ, ρ', σ, L, r, w, h, e, q => by simp [tgL] at e
  | i :: is, d :: ds, vs, ρ, ρ', σ, L, r, w, h, e, q => by
    obtain ⟨v, vs', f1, f2, ev, h1, h2, ef⟩ := h
    have e2 := List.append_eq_nil_iff.mp ef.symm
    rw [e2.1] at h1
    rw [e2.2] at h2
    unfold tgL at e
    split at e
    · rename_i hl
      obtain ⟨f0, f3, hs, r'⟩ := relL_set r hl h1
      refine ⟨v, vs', ev, ?_⟩
      refine names_ok r' (w.less (by simpa using hs)) h2 e fun σ' L' r2 w2 F2 b2 => ?_
      refine q σ' L' r2 w2 ((Fr.refl.less fun x m => hs.subset (by simpa using m)).trans F2) ⟨by rw [b2.1, List.length_set], fun j hj => ?_⟩
      have hij : i ≠ j := fun z => hj (by simp [z])
      rw [b2.2 j fun m => hj (by simp [m]), List.getElem?_set_ne hij]
    · cases e
theorem dg_tup {is : List Nat} {es : List Expr} {x1 : Nat} {n : Nat} (hc : X.calm = true) (h : DGs X is es) (hl : is.length = n) (hn : (assignEach es X.env).length = n := by kernel_rfl) (hst : (assignEach es X.env).findIdx? (·.1) = none := by kernel_rfl) :
    DG X cA is (tgT is) (.Tuple es x1 pos) := PG.imp (pg_tup hc h.pgs hn hst) fun v σ H Q ⟨d, Z, L, ρ, ρ', r, w, hd, e, q⟩ => by
  unfold tgT at e
  split at e
  · rename_i o xs
    obtain ⟨p, vs, rfl, e1, r1, _⟩ := rep_tup hd
    have len : vs.length = n := by
      rw [repL_len r1, ← hl]
      exact tgL_len e
    exact ⟨p, vs, rfl, e1, len, names_ok r w r1 e fun σ' L' r2 w2 F2 b2 => q σ' H Z L' r2 w2 F2 b2⟩
  · cases e
def stTg (g : D → Env → Option Env) (d : D) (ρ : Env) : Fl := match g d ρ with
  | some ρ' => .nx ρ'
  | none => .st
def dPar (i j : Nat) (g : Env → Out (List Ag)) : Env → Fl := fun ρ => match g ρ with
  | .ok [.d a, .d b] ρ1 => if i < ρ1.length ∧ j < ρ1.length then .nx ((ρ1.set i (some a)).set j (some b)) else .st
  | .ok _ _ => .st
  | .ex e ρ1 => .ex e ρ1
  | .st => .st
def dAug (i : Nat) (h : Int → Int → Int) (f : Env → Out D) : Env → Fl := fun ρ => match ρ[i]? with
  | some (some (.a (.int a))) => (match f ρ with
    | .ok (.a (.int b)) ρ1 => stSet i (.int (h a b)) ρ1
    | .ok _ _ => .st
    | .ex e ρ1 => .ex e ρ1
    | .st => .st)
  | _ => .st
end
end DL
namespace DL
open PySem L2
section
variable {K : PySem.W.Frag} {cA : Str → Addr} {H : Hp} {Z : ZS}
theorem set_same {σ : L2.St} {i : Nat} {v : V} (h : σ[i]? = some (some v)) : σ.set i (some v) = σ := by
  apply List.ext_getElem?
  intro j
  by_cases hj : i = j
  · subst hj
    rw [h, List.getElem?_set_self (List.getElem?_eq_some_iff.mp h).1]
  · rw [List.getElem?_set_ne hj]
theorem own_write {ρ : Env} {σ : L2.St} {L hd : FP} {i : Nat} {p : Addr} {ys : List D} {vs ws : List V} {f0 g f2 g2 : FP} {Z0 : ZS} {H0 : Hp} {L0 : FP}
    (w : Wf H Z (hd ++ L)) (r : RelL K cA H Z ρ σ L) (hp : H p = some (.lst vs)) (eL : L = f0 ++ (p :: g) ++ f2) (hσ : σ[i]? = some (some (.ref p)))
    (put : ∀ {H' : Hp} {Z' : ZS} {d' : D} {v' : V} {g' : FP}, (∀ a, Z a → Z' a) → (∀ a o, (Z a ∨ a ∈ f0 ∨ a ∈ f2) → H a = some o → H' a = some o) → RepD K cA H' Z' d' v' g' → RelL K cA H' Z' (ρ.set i (some d')) (σ.set i (some v')) (f0 ++ g' ++ f2))
    (ry : RepL K cA H Z ys ws g2) (sub : ∀ a ∈ g2, a ∈ g ∨ a ∈ hd) (nd2 : g2.Nodup) (F : Fr H0 Z0 L0 H Z (hd ++ L)) :
    RelL K cA (upd H p (.lst ws)) Z (ρ.set i (some (.lst true ys))) σ (f0 ++ (p :: g2) ++ f2) ∧ Wf (upd H p (.lst ws)) Z (f0 ++ (p :: g2) ++ f2) ∧ Fr H0 Z0 L0 (upd H p (.lst ws)) Z (f0 ++ (p :: g2) ++ f2) := by
  subst eL
  have nd := List.nodup_append.mp w.nd
  have ndL := List.nodup_append.mp nd.2.1
  have ndL1 := List.nodup_append.mp ndL.1
  have ndp := List.nodup_cons.mp ndL1.2.1
  have pz : ¬ Z p := w.dj p (by simp)
  have pf0 : p ∉ f0 := fun m => ndL1.2.2 p m p (by simp) rfl
  have pf2 : p ∉ f2 := fun m => ndL.2.2 p (by simp) p m rfl
  have phd : p ∉ hd := fun m => nd.2.2 p m p (by simp) rfl
  have pg2 : p ∉ g2 := fun m => (sub p m).elim ndp.1 phd
  have kn : ∀ a o, a ≠ p → H a = some o → upd H p (.lst ws) a = some o := fun a o n e => by rw [upd_ne n]; exact e
  have rep' : RepD K cA (upd H p (.lst ws)) Z (.lst true ys) (.ref p) (p :: g2) := ⟨p, ws, g2, rfl, repL_mono ys (fun _ z => z) (fun a o m e => kn a o (fun q => by
    subst q
    exact m.elim pz pg2) e) ry, ⟨upd_same, fun q => nomatch q⟩, rfl, fun q => nomatch q⟩
  have q := put (H' := upd H p (.lst ws)) (Z' := Z) (fun _ z => z) (fun a o m e => kn a o (fun q => by
    subst q
    rcases m with m | m | m
    · exact pz m
    · exact pf0 m
    · exact pf2 m) e) rep'
  rw [set_same hσ] at q
  have inall : ∀ a ∈ f0 ++ (p :: g2) ++ f2, a ∈ hd ++ (f0 ++ (p :: g) ++ f2) := fun a m => by
    simp only [List.mem_append, List.mem_cons] at m ⊢
    rcases m with (m | m | m) | m
    · simp [m]
    · simp [m]
    · rcases sub a m with z | z <;> simp [z]
    · simp [m]
  refine ⟨q, ⟨?_, fun a m => w.dj a (inall a m), fun a z => ?_⟩, ⟨fun a o e n => ?_, F.zm, F.zs, fun a m => F.ls a (inall a m)⟩⟩
  · refine List.nodup_append.mpr ⟨List.nodup_append.mpr ⟨ndL1.1, List.nodup_cons.mpr ⟨pg2, nd2⟩, fun a ha b hb e => ?_⟩, ndL.2.1, fun a ha b hb e => ?_⟩
    · subst e
      rcases List.mem_cons.mp hb with rfl | hb
      · exact pf0 ha
      · rcases sub a hb with z | z
        · exact ndL1.2.2 a ha a (by simp [z]) rfl
        · exact nd.2.2 a z a (by simp [ha]) rfl
    · subst e
      rcases List.mem_append.mp ha with ha | ha
      · exact ndL.2.2 a (by simp [ha]) a hb rfl
      · rcases List.mem_cons.mp ha with rfl | ha
        · exact pf2 hb
        · rcases sub a ha with z | z
          · exact ndL.2.2 a (by simp [z]) a hb rfl
          · exact nd.2.2 a z a (by simp [hb]) rfl
  · obtain ⟨o, e⟩ := w.tz a z
    by_cases h : a = p
    · subst h; exact absurd z pz
    · exact ⟨o, kn a o h e⟩
  · have h1 := F.keep a o e n
    by_cases h : a = p
    · subst h
      rcases F.ls a (by simp) with z | z
      · exact absurd z n
      · rw [z] at e; cases e
    · exact kn a o h h1
theorem relL_own {ρ : Env} {σ : L2.St} {L : FP} {i : Nat} {xs : List D} (r : RelL K cA H Z ρ σ L) (h : ρ[i]? = some (some (.lst true xs))) : ∃ p vs g f0 f2, σ[i]? = some (some (.ref p)) ∧ H p = some (.lst vs) ∧ RepL K cA H Z xs vs g ∧ L = f0 ++ (p :: g) ++ f2 ∧
    (∀ {H' : Hp} {Z' : ZS} {d' : D} {v' : V} {g' : FP}, (∀ a, Z a → Z' a) → (∀ a o, (Z a ∨ a ∈ f0 ∨ a ∈ f2) → H a = some o → H' a = some o) → RepD K cA H' Z' d' v' g' → RelL K cA H' Z' (ρ.set i (some d')) (σ.set i (some v')) (f0 ++ g' ++ f2)) := by
  obtain ⟨v, f0, f1, f2, hv, hr, ef, put, _⟩ := relL_at r h
  obtain ⟨p, vs, g, rfl, e1, r1, e2, _⟩ := rep_lst hr
  rw [if_pos rfl] at e2
  subst e2
  exact ⟨p, vs, g, f0, f2, hv, e1, r1, ef, put⟩
theorem repL_set' {xs : List D} {vs : List V} {g : FP} (h : RepL K cA H Z xs vs g) : ∀ {j : Nat} {d : D} {v : V} {f : FP}, j < xs.length → RepD K cA H Z d v f → ∃ g0 g2, (g0 ++ g2).Sublist g ∧ RepL K cA H Z (xs.set j d) (vs.set j v) (g0 ++ f ++ g2) := by
  induction xs generalizing vs g with
  | nil => intro j d v f hj; simp at hj
  | cons x xs ih =>
    intro j d v f hj hd
    obtain ⟨u, vs', f1, f2, ev, h1, h2, ef⟩ := h
    subst ev ef
    cases j with
    | zero => exact ⟨[], f2, by simp, v, vs', f, f2, rfl, hd, h2, by simp⟩
    | succ j =>
      obtain ⟨g0, g2, hs, q⟩ := ih h2 (by simpa using hj) hd
      refine ⟨f1 ++ g0, g2, by rw [List.append_assoc]; exact (List.Sublist.refl f1).append hs, u, vs'.set j v, f1, g0 ++ f ++ g2, rfl, h1, q, by simp⟩
theorem repL_erase {xs : List D} {vs : List V} {g : FP} (h : RepL K cA H Z xs vs g) : ∀ {j : Nat} {d : D}, xs[j]? = some d → ∃ v g0 f g2, vs[j]? = some v ∧ RepD K cA H Z d v f ∧ g = g0 ++ f ++ g2 ∧ RepL K cA H Z (xs.eraseIdx j) (vs.eraseIdx j) (g0 ++ g2) := by
  induction xs generalizing vs g with
  | nil => intro j d e; simp at e
  | cons x xs ih =>
    intro j d e
    obtain ⟨u, vs', f1, f2, ev, h1, h2, ef⟩ := h
    subst ev ef
    cases j with
    | zero =>
      simp at e; subst e
      exact ⟨u, [], f1, f2, rfl, h1, by simp, by simpa using h2⟩
    | succ j =>
      obtain ⟨v, g0, f, g2, hv, hr, eg, hx⟩ := ih h2 (by simpa using e)
      exact ⟨v, f1 ++ g0, f, g2, by simpa using hv, hr, by rw [eg]; simp, u, _, f1, g0 ++ g2, rfl, h1, hx, by simp⟩
end
def stApp (i : Nat) (d : D) (ρ : Env) : Fl := match ρ[i]? with
  | some (some (.n .lst true xs)) => if xs.length < cap then .nx (ρ.set i (some (.lst true (xs ++ [d])))) else .st
  | _ => .st
def stExt (i : Nat) (d : D) (ρ : Env) : Fl := match ρ[i]? with
  | some (some (.n .lst true xs)) => (match d with
    | .n .lst _ ys => if xs.length + ys.length ≤ cap ∧ isFL ys = true then .nx (ρ.set i (some (.lst true (xs ++ ys)))) else .st
    | _ => .st)
  | _ => .st
def dHas (i : Nat) (f : Env → Fl) : Env → Fl := fun ρ => match ρ[i]? with
  | some (some (.n .lst _ _)) => f ρ
  | _ => .st
section
variable {X : Cx} {cA : Str → Addr} {W : WX} {k : Option Nat} {f : Env → Out D} {e o : Expr} {pos apos cpos : Pos}
theorem ds_append {i : Nat} (ho : PE X o (tVar i)) (he : DE X cA W f e)
    (hbase : attributeBase o "append" X.env (eval o X.env) = eval o X.env := by kernel_rfl)
    (hfew : ((backTo cpos (starEach [e] X.env)).all (fun x => !x.1) && (backToKw cpos (keywordEach [] X.env)).all (fun x => x.1.isSome)
      && decide ([e].length + ([] : List Keyword).length + (if ([] : List Keyword).isEmpty then 0 else 1) < 30)) = true := by kernel_rfl)
    (hline : (apos.endLine == cpos.line) = true := by kernel_rfl) (hs : starEach [e] X.env = (false, eval e X.env) :: starEach [] X.env := by kernel_rfl)
    (hsw : swapsWith (.Call (.Attribute o "append" apos) [e] [] cpos) none pos.line X.env = pure false := by kernel_rfl) : DS X cA W k (dHas i (dBind f (stApp i))) (.Expr (.Call (.Attribute o "append" apos) [e] [] cpos) pos) :=
  ds_of (ps_expr (pe_bm PySem.F.plainAttrs_list PySem.F.slot_list_append PySem.F.type_list_append mt_append ho (pa_cons he pa_nil hs) hbase hfew hline hs rfl) hsw) fun T σ H Z L ρ r w p => by
    unfold dHas at p
    split at p
    · rename_i oo zs hz
      obtain ⟨v, f0, f1, f2, hv, hr, ef, _, _⟩ := relL_at r hz
      obtain ⟨p0, vs0, g0, rfl, e0, _, _, _⟩ := rep_lst hr
      refine ⟨_, hv, .inl ⟨rfl, _, SqL.of e0⟩, bind_te r w p fun d ρ1 u H1 Z1 L1 fp hd r1 w1 h1 F1 p => ?_⟩
      unfold stApp at p
      split at p
      · rename_i xs hx
        split at p
        · rename_i hl
          obtain ⟨q, vs, g, f0, f2, hσ, hp, rx, eL, put⟩ := relL_own r1 hx
          rw [hv] at hσ
          cases hσ
          have len := repL_len rx
          have ra := repL_append rx (repL_one h1)
          have nd := List.nodup_append.mp w1.nd
          show rAppend (.ref p0) [u] H1 (fun x H1 => T.nx σ H1)
          refine ⟨p0, vs, u, rfl, rfl, hp, cap_lt (by omega), ?_⟩
          have nd2 : (g ++ fp).Nodup := by
            rw [eL] at nd
            refine List.nodup_append.mpr ⟨(List.nodup_cons.mp (List.nodup_append.mp (List.nodup_append.mp nd.2.1).1).2.1).2, nd.1, fun a ha b hb e => ?_⟩
            subst e
            exact nd.2.2 a hb a (by simp [ha]) rfl
          obtain ⟨a, b, c⟩ := own_write w1 r1 hp eL hv put ra (fun a m => List.mem_append.mp m) nd2 F1
          exact p σ _ Z1 _ a b c Pin.refl
        · exact p.elim
      · exact p.elim
    · exact p.elim
def stSub (i : Nat) (fj : Env → Out D) (d : D) (ρ : Env) : Fl := match ρ[i]? with
  | some (some (.n .lst true _)) => (match fj ρ with
    | .ok (.a (.int z)) ρ2 => (match ρ2[i]? with
      | some (some (.n .lst true xs)) => (match ixN xs.length z with
        | some j => .nx (ρ2.set i (some (.lst true (xs.set j d))))
        | none => .st)
      | _ => .st)
    | .ok _ _ => .st
    | .ex e ρ2 => .ex e ρ2
    | .st => .st)
  | _ => .st
theorem ixN_lt {n : Nat} {z : Int} {j : Nat} (h : ixN n z = some j) : j < n := by
  obtain ⟨_, h2, _⟩ := ixN_seq h
  exact h2
theorem ds_sub {i : Nat} {ix : Expr} {fj : Env → Out D} {spos : Pos} (he : DE X cA W f e) (ho : PE X o (tVar i)) (hi : DE X cA W fj ix)
    (hs : swapsWithSole [.Subscript o ix spos] e pos.line X.env = pure false := by kernel_rfl) (hw : swappedStores [.Subscript o ix spos] e X.env = pure none := by kernel_rfl)
    (h1 : (assignEach [.Subscript o ix spos] X.env).map (·.2) = [assign (.Subscript o ix spos) X.env] := by kernel_rfl)
    (ha : ∀ v, assign (.Subscript o ix spos) X.env v = (do
      let ov ← holding [v] (eval o X.env)
      let iv ← holding [v, ov] (eval ix X.env)
      standAt spos
      holding [v, ov, iv] (setItem ov iv v)
      release [v, ov, iv] []) := by intro _; kernel_rfl) : DS X cA W k (dBind f (stSub i fj)) (.Assign [.Subscript o ix spos] e pos) :=
  ds_of (ps_asg he (pg_sub ho hi set_list ha) hs hw h1) fun T σ H Z L ρ r w p => bind_te r w p fun d ρ1 v H1 Z1 L1 fp hd r1 w1 h1 F1 p => by
    unfold stSub at p
    split at p
    · rename_i xs0 hx0
      obtain ⟨q, _, _, _, _, hσ, _, _, _, _⟩ := relL_own r1 hx0
      refine ⟨_, hσ, Z1, L1, ρ1, r1, w1.less (List.sublist_append_right _ _), ?_⟩
      cases hj : fj ρ1 with
      | st => rw [hj] at p; exact p
      | ex e ρ2 =>
        rw [hj] at p
        exact exw (post_es p) (F1.less fun x m => by simp [m])
      | ok d2 ρ2 =>
        rw [hj] at p
        intro u H2 Z2 L2 fp2 r2 w2 h2 F2
        have w12 : Wf H2 Z2 (fp ++ (fp2 ++ L2)) := w1.wait (repD_trk d h1) F2 w2
        have F12 := Fr.wait w1 F1 F2
        have hv2 := repD_wait w1 h1 F2
        cases d2 with
        | n k o xs => exact p.elim
        | a x =>
          cases x with
          | non => exact p.elim
          | bl b => exact p.elim
          | str s => exact p.elim
          | int z =>
            obtain ⟨e1, e2⟩ := h2
            subst e1 e2
            dsimp only at p
            split at p
            · rename_i xs hx
              split at p
              · rename_i j hj2
                obtain ⟨q2, vs, g, f0, f2, hσ2, hp, rx, eL, put⟩ := relL_own r2 hx
                rw [hσ] at hσ2
                cases hσ2
                have len := repL_len rx
                obtain ⟨g0, g2, hsb, rs⟩ := repL_set' rx (ixN_lt hj2) hv2
                refine ⟨q, vs, z, j, rfl, rfl, hp, by rw [len]; exact hj2, ?_⟩
                have nd := List.nodup_append.mp w12.nd
                have ndg : g.Nodup := by
                  have nl : L2.Nodup := by simpa using nd.2.1
                  rw [eL] at nl
                  exact (List.nodup_cons.mp (List.nodup_append.mp (List.nodup_append.mp nl).1).2.1).2
                have nd2 : (g0 ++ fp ++ g2).Nodup := by
                  have pm : (fp ++ (g0 ++ g2)).Perm (g0 ++ fp ++ g2) := by
                    rw [List.append_assoc]; exact List.perm_append_comm_assoc fp g0 g2
                  refine pm.nodup_iff.mp (List.nodup_append.mpr ⟨nd.1, ndg.sublist hsb, fun a ha b hb e => ?_⟩)
                  subst e
                  exact nd.2.2 a ha a (by rw [eL]; simp [hsb.subset hb]) rfl
                obtain ⟨a, b, c⟩ := own_write w12 r2 hp eL hσ put rs (fun a m => by
                  simp only [List.mem_append] at m
                  rcases m with (m | m) | m
                  · exact .inl (hsb.subset (by simp [m]))
                  · exact .inr m
                  · exact .inl (hsb.subset (by simp [m]))) nd2 F12
                exact p σ _ Z2 _ a b c Pin.refl
              · exact p.elim
            · exact p.elim
    · exact p.elim
def stSub2 (i : Nat) (qa qb : Env → Option At) (d : D) (ρ : Env) : Fl := match ρ[i]? with
  | some (some (.n .lst true xs)) => (match qa ρ, qb ρ with
    | some (.int a), some (.int b) => (match ixN xs.length a with
      | some j => (match xs[j]? with
        | some (.n .lst true ys) => (match ixN ys.length b with
          | some l => if isF d = true then .nx (ρ.set i (some (.lst true (xs.set j (.lst true (ys.set l d)))))) else .st
          | none => .st)
        | _ => .st)
      | none => .st)
    | _, _ => .st)
  | _ => .st
end
end DL
namespace DL
open PySem L2
def ItOf (K : PySem.W.Frag) (cA : Str → Addr) (J : It) (ds : List D) (H0 : Hp) (Z0 : ZS) : Prop :=
  ∀ i H Z1, (∀ a, Z0 a → Z1 a) → (∀ a o, Z0 a → H0 a = some o → H a = some o) → Wf H Z1 [] →
    (∀ d, ds[i]? = some d → J.go i H ∧ ∀ x H', J.yld i H x H' → ∃ Z2, Fr H Z1 [] H' Z2 [] ∧ Wf H' Z2 [] ∧ RepD K cA H' Z2 d x []) ∧ (ds.length ≤ i → J.stop i H)
section
variable (K : PySem.W.Frag) (cA : Str → Addr)
def PostI (W : WX) (σ : L2.St) (H : Hp) (Z : ZS) (L : FP) (R : It → Hp → Prop) : Out (List D) → Prop
  | .ok ds ρ' => ∀ J H' Z' L', RelL K cA H' Z' ρ' σ L' → Wf H' Z' L' → Fr H Z L H' Z' L' → ItOf K cA J ds H' Z' → R J H'
  | .ex e ρ' => ∀ cls d H' Z' L', RelL K cA H' Z' ρ' σ L' → Wf H' Z' L' → ExR cA H' Z' e cls d → Fr H Z L H' Z' L' → W cls d σ H'
  | .st => False
def TIof (W : WX) (f : Env → Out (List D)) : TI := fun σ H R => ∃ Z L ρ, RelL K cA H Z ρ σ L ∧ Wf H Z L ∧ PostI K cA W σ H Z L R (f ρ)
end
def DI (X : Cx) (cA : Str → Addr) (W : WX) (f : Env → Out (List D)) (tg iter : Expr) : Prop := PI X tg iter (TIof X.K cA W f)
theorem PI.imp {X : Cx} {tg iter : Expr} {t t' : TI} (h : PI X tg iter t) (i : ∀ σ H R, t' σ H R → t σ H R) : PI X tg iter t' := ⟨fun pins s σ H R I w => h.run pins s σ H R I (i σ H R w)⟩
theorem pi_or {X : Cx} {tg iter : Expr} {t t' : TI} (h : PI X tg iter t) (h' : PI X tg iter t') : PI X tg iter (fun σ H R => t σ H R ∨ t' σ H R) := ⟨fun pins s σ H R I w => by
  rcases w with w | w
  · exact h.run pins s σ H R I w
  · exact h'.run pins s σ H R I w⟩
section
variable {K : PySem.W.Frag} {cA : Str → Addr}
theorem rd_keep {H H' : Hp} {Z : ZS} {p : Addr} {u : HO} (z : Z p) (k : ∀ a o, Z a → H a = some o → H' a = some o) (r : Rd H p u) : Rd H' p u := rd_mono (fun o e => k p o z e) r
theorem it_list {H0 : Hp} {Z0 : ZS} {p : Addr} {vs : List V} {xs : List D} (z : Z0 p) (e : H0 p = some (.lst vs)) (r : RepL K cA H0 Z0 xs vs []) : ItOf K cA (Itl K p) xs H0 Z0 := by
  intro i H Z1 hz hk w
  have e1 := hk p _ z e
  have r1 : RepL K cA H Z1 xs vs [] := repL_mono xs hz (fun a o m e => by
    rcases m with m | m
    · exact hk a o m e
    · cases m) r
  refine ⟨fun d hd => ?_, fun hl => ⟨vs, SqL.of e1, by rw [repL_len r]; exact hl⟩⟩
  obtain ⟨v, f0, f1, f2, hv, hr, ef⟩ := repL_get r1 hd
  have e2 : f1 = [] := by
    have := congrArg List.length ef
    simp at this
    exact List.eq_nil_of_length_eq_zero (by omega)
  subst e2
  refine ⟨⟨vs, v, SqL.of e1, hv⟩, fun x H' y => ?_⟩
  obtain ⟨e3, y⟩ := y
  subst e3
  have := y vs (SqL.of e1)
  rw [hv] at this
  cases this
  exact ⟨Z1, Fr.refl, w, hr⟩
theorem it_tup {H0 : Hp} {Z0 : ZS} {p : Addr} {vs : List V} {xs : List D} (c : TupK K H0 Z0 p vs) (r : RepL K cA H0 Z0 xs vs []) : ItOf K cA (Itt K p) xs H0 Z0 := by
  intro i H Z1 hz hk w
  have e1 : SqT K H p vs := by
    rcases c with ⟨z, ob, q, _⟩ | q
    · exact .inl (rd_keep z hk (.inr ⟨ob, q⟩))
    · exact kt_sq q
  have r1 : RepL K cA H Z1 xs vs [] := repL_mono xs hz (fun a o m e => by
    rcases m with m | m
    · exact hk a o m e
    · cases m) r
  refine ⟨fun d hd => ?_, fun hl => ⟨vs, e1, by rw [repL_len r]; exact hl⟩⟩
  obtain ⟨v, f0, f1, f2, hv, hr, ef⟩ := repL_get r1 hd
  have e2 : f1 = [] := by
    have := congrArg List.length ef
    simp at this
    exact List.eq_nil_of_length_eq_zero (by omega)
  subst e2
  refine ⟨⟨vs, v, e1, hv⟩, fun x H' y => ?_⟩
  obtain ⟨e3, y⟩ := y
  subst e3
  have := y vs e1
  rw [hv] at this
  cases this
  exact ⟨Z1, Fr.refl, w, hr⟩
def intL (lo : Int) (n : Nat) : List D := (List.range n).map fun (i : Nat) => D.int (lo + (i : Int))
theorem intL_len (lo : Int) (n : Nat) : (intL lo n).length = n := by simp [intL]
theorem it_rng {H0 : Hp} {Z0 : ZS} {lo : Int} {n : Nat} : ItOf K cA (Itr lo n) (intL lo n) H0 Z0 := by
  intro i H Z1 hz hk w
  refine ⟨fun d hd => ?_, fun hl => by rw [intL_len] at hl; exact hl⟩
  have hi : i < n := by
    have := (List.getElem?_eq_some_iff.mp hd).1
    rw [intL_len] at this; exact this
  refine ⟨hi, fun x H' y => ?_⟩
  obtain ⟨e1, e2⟩ := y
  subst e1 e2
  have : d = .int (lo + i) := by
    simp [intL, hi] at hd
    exact hd.symm
  subst this
  exact ⟨Z1, Fr.refl, w, rfl, rfl⟩
def intsC (lo c : Int) (n : Nat) : List D := (List.range n).map fun (i : Nat) => D.int (lo + (i : Int) * c)
def signs (s : Str) : List D := s.cps.toList.map fun c => .str ⟨#[c]⟩
theorem it_str {H0 : Hp} {Z0 : ZS} {s : Str} : ItOf K cA (Its s) (signs s) H0 Z0 := by
  intro i H Z1 hz hk w
  refine ⟨fun d hd => ?_, fun hl => by
    have : s.cps.size ≤ i := by simpa [signs] using hl
    exact this⟩
  have hd' : (s.cps.toList[i]?).map (fun c => D.str ⟨#[c]⟩) = some d := by rw [← hd]; simp [signs]
  cases hc : s.cps.toList[i]? with
  | none => rw [hc] at hd'; cases hd'
  | some c =>
    rw [hc] at hd'
    cases hd'
    have hc' : s.cps[i]? = some c := by simpa using hc
    refine ⟨(Array.getElem?_eq_some_iff.mp hc').1, fun x H' y => ?_⟩
    obtain ⟨e1, c', e2, e3⟩ := y
    subst e1
    rw [hc'] at e2
    cases e2
    subst e3
    exact ⟨Z1, Fr.refl, w, rfl, rfl⟩
end
def itemsOf : D → Option (List D)
  | .n .lst _ xs => if xs.length ≤ cap then some xs else none
  | .n .tup _ xs => if xs.length ≤ cap then some xs else none
  | .a (.str s) => if s.length ≤ cap then some (signs s) else none
  | _ => none
def dIter (f : Env → Out D) : Env → Out (List D) := fun ρ => match f ρ with
  | .ok d ρ1 => (match itemsOf d with
    | some xs => if isF d = true then .ok xs ρ1 else .st
    | none => .st)
  | .ex e ρ1 => .ex e ρ1
  | .st => .st
def dRng1 (f : Env → Out D) : Env → Out (List D) := fun ρ => match f ρ with
  | .ok (.a (.int j)) ρ1 => if -1000000 ≤ j ∧ j ≤ 1000000 then .ok (intL 0 j.toNat) ρ1 else .st
  | .ok _ _ => .st
  | .ex e ρ1 => .ex e ρ1
  | .st => .st
def dRng2 (f g : Env → Out D) : Env → Out (List D) := fun ρ => match f ρ with
  | .ok (.a (.int i)) ρ1 => (match g ρ1 with
    | .ok (.a (.int j)) ρ2 => if (-1000000 ≤ i ∧ i ≤ 1000000) ∧ -1000000 ≤ j ∧ j ≤ 1000000 then .ok (intL i (j - i).toNat) ρ2 else .st
    | .ok _ _ => .st
    | .ex e ρ2 => .ex e ρ2
    | .st => .st)
  | .ok _ _ => .st
  | .ex e ρ1 => .ex e ρ1
  | .st => .st
section
variable {X : Cx} {cA : Str → Addr} {W : WX} {f g : Env → Out D} {e e2 tg : Expr} {p pos : Pos}
theorem di_of (he : DE X cA W f e) : DI X cA W (dIter f) tg e :=
  PI.imp (pi_or (pi_list he) (pi_or (pi_tup he) (pi_str he))) fun σ H R ⟨Z, L, ρ, r, w, q⟩ => by
    unfold dIter at q
    cases hf : f ρ with
    | st => rw [hf] at q; exact q.elim
    | ex e ρ1 =>
      rw [hf] at q
      exact .inl ⟨Z, L, ρ, r, w, by rw [hf]; exact q⟩
    | ok d ρ1 =>
      rw [hf] at q
      dsimp only at q
      split at q
      · rename_i xs hx
        split at q
        · rename_i hF
          unfold itemsOf at hx
          split at hx
          · rename_i o ys
            split at hx
            · cases hx
              refine .inl ⟨Z, L, ρ, r, w, ?_⟩
              rw [hf]
              intro v H1 Z1 L1 fp r1 w1 h1 F1
              have efp := repD_isF _ h1 hF
              subst efp
              have ho : o = false := by
                have : (!o && isFL xs) = true := hF
                simp at this; exact this.1
              subst ho
              obtain ⟨q0, vs, g, rfl, e1, rr, _, zz⟩ := rep_lst h1
              obtain ⟨z1, z2⟩ := zz rfl
              subst z2
              exact ⟨q0, rfl, ⟨vs, SqL.of e1⟩, q _ H1 Z1 L1 r1 w1 F1 (it_list z1 e1 rr)⟩
            · cases hx
          · rename_i o ys
            split at hx
            · cases hx
              refine .inr (.inl ⟨Z, L, ρ, r, w, ?_⟩)
              rw [hf]
              intro v H1 Z1 L1 fp r1 w1 h1 F1
              obtain ⟨q0, vs, rfl, e1, rr, rfl, _, cc⟩ := rep_tup h1
              exact ⟨q0, rfl, ⟨vs, e1⟩, q _ H1 Z1 L1 r1 w1 F1 (it_tup cc rr)⟩
            · cases hx
          · rename_i s
            split at hx
            · cases hx
              refine .inr (.inr ⟨Z, L, ρ, r, w, ?_⟩)
              rw [hf]
              intro v H1 Z1 L1 fp r1 w1 h1 F1
              obtain ⟨e1, e2⟩ := h1
              subst e1 e2
              exact ⟨s, rfl, q _ H1 Z1 L1 r1 w1 F1 it_str⟩
            · cases hx
          · cases hx
        · exact q.elim
      · exact q.elim
theorem post_int {K : PySem.W.Frag} {σ : L2.St} {H : Hp} {Z : ZS} {L : FP} {ρ : Env} {Q : VK} (r : RelL K cA H Z ρ σ L) (w : Wf H Z L)
    (h : match f ρ with
      | .ok (.a (.int i)) ρ1 => ∀ H1 Z1 L1, RelL K cA H1 Z1 ρ1 σ L1 → Wf H1 Z1 L1 → Fr H Z L H1 Z1 L1 → Q (.int i) H1
      | .ok _ _ => False
      | .ex e ρ1 => ∀ cls d H' Z' L', RelL K cA H' Z' ρ1 σ L' → Wf H' Z' L' → ExR cA H' Z' e cls d → Fr H Z L H' Z' L' → W cls d σ H'
      | .st => False) : TEof K cA W f σ H Q := by
  refine ⟨Z, L, ρ, r, w, ?_⟩
  cases hf : f ρ with
  | st => rw [hf] at h; exact h
  | ex e ρ1 => rw [hf] at h; exact h
  | ok d ρ1 =>
    rw [hf] at h
    intro v H1 Z1 L1 fp r1 w1 h1 F1
    cases d with
    | n k o xs => exact h.elim
    | a x =>
      cases x with
      | non => exact h.elim
      | bl b => exact h.elim
      | str s => exact h.elim
      | int i =>
        obtain ⟨e1, e2⟩ := h1
        subst e1 e2
        exact h H1 Z1 L1 r1 w1 F1
theorem di_rng1 (hg : Gl X "range") (hm : X.mg "range" = none) (he : DE X cA W f e) (hs : starEach [e] X.env = [(false, eval e X.env)] := by kernel_rfl) : DI X cA W (dRng1 f) tg (.Call (.Name "range" p) [e] [] pos) :=
  PI.imp (pi_range1 hg hm (pa_cons he pa_nil hs) hs) fun σ H R ⟨Z, L, ρ, r, w, q⟩ => by
    refine post_int r w ?_
    unfold dRng1 at q
    cases hf : f ρ with
    | st => rw [hf] at q; exact q
    | ex e ρ1 => rw [hf] at q; exact q
    | ok d ρ1 =>
      rw [hf] at q
      cases d with
      | n k o xs => exact q.elim
      | a x =>
        cases x with
        | non => exact q.elim
        | bl b => exact q.elim
        | str s => exact q.elim
        | int i =>
          dsimp only at q
          split at q
          · rename_i hi
            intro H1 Z1 L1 r1 w1 F1
            exact ⟨i, rfl, by omega, by omega, q _ H1 Z1 L1 r1 w1 F1 it_rng⟩
          · exact q.elim
end
def forL (g : D → Env → Option Env) (b : Env → Fl) : List D → Env → Fl
  | [], ρ => .nx ρ
  | d :: ds, ρ => match g d ρ with
    | none => .st
    | some ρ1 => match b ρ1 with
      | .nx ρ2 => forL g b ds ρ2
      | .ct ρ2 => forL g b ds ρ2
      | .bk ρ2 => .nx ρ2
      | .rt d ρ2 => .rt d ρ2
      | .ex e ρ2 => .ex e ρ2
      | .st => .st
def dFor (src : Env → Out (List D)) (g : D → Env → Option Env) (b : Env → Fl) : Env → Fl := fun ρ => match src ρ with
  | .ok ds ρ1 => forL g b ds ρ1
  | .ex e ρ1 => .ex e ρ1
  | .st => .st
theorem drop_cons' {α : Type} {l : List α} {i : Nat} {d : α} (h : l[i]? = some d) : l.drop i = d :: l.drop (i + 1) := by
  obtain ⟨h1, h2⟩ := List.getElem?_eq_some_iff.mp h
  rw [List.drop_eq_getElem_cons h1, h2]
section
variable {X : Cx} {cA : Str → Addr} {W : WX} {k : Option Nat} {src : Env → Out (List D)} {ts : List Nat} {g : D → Env → Option Env} {b : Env → Fl} {iter tg : Expr} {body : List Stmt} {pos : Pos}
theorem it_turn {K : PySem.W.Frag} {J : It} {ds : List D} {H0 H : Hp} {Z0 Z : ZS} {L0 L : FP} {ρ : Env} {σ : L2.St} (hi : ItOf K cA J ds H0 Z0) (w0 : Wf H0 Z0 L0) (F : Fr H0 Z0 L0 H Z L) (r : RelL K cA H Z ρ σ L) (w : Wf H Z L) (i : Nat) :
    (∀ d, ds[i]? = some d → J.go i H ∧ ∀ x H', J.yld i H x H' → ∃ Z2, RelL K cA H' Z2 ρ σ L ∧ Wf H' Z2 L ∧ Fr H Z L H' Z2 L ∧ RepD K cA H' Z2 d x []) ∧ (ds.length ≤ i → J.stop i H) := by
  obtain ⟨a, b⟩ := hi i H Z F.zm (fun a o z e => F.keep a o e fun m => w0.dj a m z) (wf0 w)
  refine ⟨fun d hd => ⟨(a d hd).1, fun x H' y => ?_⟩, b⟩
  obtain ⟨Z2, F2, w2, h2⟩ := (a d hd).2 x H' y
  obtain ⟨r3, w3, F3⟩ := hand0 w r F2 w2
  exact ⟨Z2, r3, w3, F3, h2⟩
theorem ds_for (hp : PassesOwn (model X.prog X.w) X.A X.env X.xe) (hc : X.calm = true) (hi : DI X cA W src tg iter) (hg : DG X cA ts g tg) (hb : DSs X cA W k b body) (hk : ∀ i, k = some i → i ∉ ts)
    (hs : ∀ x, foldedSetIterable iter X.env x = pure x := by intro _; kernel_rfl) : DS X cA W k (dFor src g b) (.For tg iter body [] pos) := ds_of (L2.ps_for hp hc hi hg hb hs) fun T σ H Z L ρ r w p => by
  refine ⟨Z, L, ρ, r, w, ?_⟩
  unfold dFor at p
  cases hsrc : src ρ with
  | st => rw [hsrc] at p; exact p
  | ex e ρ1 => rw [hsrc] at p; exact post_es p
  | ok ds ρ1 =>
    rw [hsrc] at p
    intro J H1 Z1 L1 r1 w1 F1 hit
    refine ⟨fun i m σi Hi => m = ds.length - i ∧ i ≤ ds.length ∧ ∃ Zi Li ρi, RelL X.K cA Hi Zi ρi σi Li ∧ Wf Hi Zi Li ∧ Fr H1 Z1 L1 Hi Zi Li ∧ Pin k σ σi ∧ PostS X.K cA W k σ H Z L T (forL g b (ds.drop i) ρi), ⟨_, rfl, Nat.zero_le _, Z1, L1, ρ1, r1, w1, Fr.refl, Pin.refl, p⟩, ?_⟩
    rintro i m σi Hi ⟨rfl, hil, Zi, Li, ρi, ri, wi, Fi, pi, qi⟩
    obtain ⟨tn, stp⟩ := it_turn hit w1 Fi ri wi i
    cases hd : ds[i]? with
    | none =>
      left
      have hl : ds.length ≤ i := List.getElem?_eq_none_iff.mp hd
      refine ⟨stp hl, ?_⟩
      rw [List.drop_eq_nil_of_le hl] at qi
      exact qi σi Hi Zi Li ri wi (F1.trans Fi) pi
    | some d =>
      right
      obtain ⟨go, yl⟩ := tn d hd
      have hlt : i < ds.length := (List.getElem?_eq_some_iff.mp hd).1
      rw [drop_cons' hd] at qi
      unfold forL at qi
      refine ⟨go, fun σ' H' => ∃ Z' L' ρ', RelL X.K cA H' Z' ρ' σ' L' ∧ Wf H' Z' L' ∧ Fr H1 Z1 L1 H' Z' L' ∧ Pin k σ σ' ∧ PostS X.K cA W k σ H Z L T (forL g b (ds.drop (i + 1)) ρ'), ?_, fun x H' y => ?_⟩
      · rintro σ' H' ⟨Z', L', ρ', a1, a2, a3, a4, a5⟩
        exact ⟨ds.length - (i + 1), by omega, rfl, hlt, Z', L', ρ', a1, a2, a3, a4, a5⟩
      · obtain ⟨Z2, r2, w2, F2, h2⟩ := yl x H' y
        cases hgd : g d ρi with
        | none => rw [hgd] at qi; exact qi.elim
        | some ρa =>
          rw [hgd] at qi
          refine ⟨d, Z2, Li, ρi, ρa, r2, w2, h2, hgd, fun σa Ha Za La ra wa Fa ba => ?_⟩
          have FA : Fr H1 Z1 L1 Ha Za La := (Fi.trans F2).trans Fa
          have pA : Pin k σ σa := pi.trans (ba.pin hk)
          refine ⟨Za, La, ρa, ra, wa, ?_⟩
          dsimp only at qi
          cases hbo : b ρa with
          | st => rw [hbo] at qi; exact qi
          | nx ρ2 => rw [hbo] at qi; exact fun σ' H' Z' L' a1 a2 a3 a4 => ⟨Z', L', ρ2, a1, a2, FA.trans a3, pA.trans a4, qi⟩
          | ct ρ2 => rw [hbo] at qi; exact fun σ' H' Z' L' a1 a2 a3 a4 => ⟨Z', L', ρ2, a1, a2, FA.trans a3, pA.trans a4, qi⟩
          | bk ρ2 => rw [hbo] at qi; exact fun σ' H' Z' L' a1 a2 a3 a4 => qi σ' H' Z' L' a1 a2 ((F1.trans FA).trans a3) (pA.trans a4)
          | rt d ρ2 => rw [hbo] at qi; exact fun v σ' H' Z' L' fp a1 a2 a3 a4 a5 => qi v σ' H' Z' L' fp a1 a2 a3 ((F1.trans FA).trans a4) (pA.trans a5)
          | ex e ρ2 => rw [hbo] at qi; exact fun cls d σ' H' Z' L' a1 a2 a3 a4 a5 => qi cls d σ' H' Z' L' a1 a2 a3 ((F1.trans FA).trans a4) (pA.trans a5)
end
def whL (t : Env → Out Bool) (b : Env → Fl) : Nat → Env → Fl
  | 0, _ => .st
  | m + 1, ρ => match t ρ with
    | .ok false ρ1 => .nx ρ1
    | .ok true ρ1 => (match b ρ1 with
      | .nx ρ2 => whL t b m ρ2
      | .ct ρ2 => whL t b m ρ2
      | .bk ρ2 => .nx ρ2
      | .rt d ρ2 => .rt d ρ2
      | .ex e ρ2 => .ex e ρ2
      | .st => .st)
    | .ex e ρ1 => .ex e ρ1
    | .st => .st
section
variable {X : Cx} {cA : Str → Addr} {W : WX} {k : Option Nat} {t : Env → Out Bool} {b : Env → Fl} {c : Expr} {body : List Stmt} {pos : Pos}
end
end DL
namespace DL
open PySem L2
def wipeE (ρ : Env) : List Nat → Env
  | [] => ρ
  | v :: vs => (wipeE ρ vs).set v none
def backE (ρ1 : Env) : List Nat → Env → Env
  | [], ρ => ρ
  | v :: vs, ρ => match ρ1[v]? with
    | some (some d) => if isF d = true ∧ v < (backE ρ1 vs ρ).length then (backE ρ1 vs ρ).set v (some d) else backE ρ1 vs ρ
    | _ => backE ρ1 vs ρ
section
variable {K : PySem.W.Frag} {cA : Str → Addr} {H : Hp} {Z : ZS}
theorem relL_cong : ∀ {ρ : Env} {σ σ' : L2.St} {L : FP}, RelL K cA H Z ρ σ L → σ'.length = σ.length → (∀ (i : Nat) (d : D), ρ[i]? = some (some d) → σ'[i]? = σ[i]?) → RelL K cA H Z ρ σ' L
  | [], σ, σ', L, h, hl, _ => by
    have e := h.1
    subst e
    have : σ' = [] := List.eq_nil_of_length_eq_zero (by simpa using hl)
    subst this
    exact h
  | none :: ρ, σ, σ', L, h, hl, hs => by
    obtain ⟨x, σ1, e, r⟩ := h
    subst e
    cases σ' with
    | nil => simp at hl
    | cons y σ2 => exact ⟨y, σ2, rfl, relL_cong r (by simpa using hl) fun i d e => by simpa using hs (i + 1) d (by simpa using e)⟩
  | some d :: ρ, σ, σ', L, h, hl, hs => by
    obtain ⟨v, σ1, f1, f2, e, h1, h2, ef⟩ := h
    subst e
    cases σ' with
    | nil => simp at hl
    | cons y σ2 =>
      have h0 := hs 0 d rfl
      simp at h0
      subst h0
      exact ⟨v, σ2, f1, f2, rfl, h1, relL_cong h2 (by simpa using hl) fun i d e => by simpa using hs (i + 1) d (by simpa using e), ef⟩
theorem relL_none : ∀ {ρ : Env} {σ : L2.St} {L : FP} (i : Nat), RelL K cA H Z ρ σ L → ∃ L', L'.Sublist L ∧ RelL K cA H Z (ρ.set i none) σ L'
  | [], σ, L, i, h => ⟨L, List.Sublist.refl _, by simpa using h⟩
  | none :: ρ, σ, L, 0, h => ⟨L, List.Sublist.refl _, h⟩
  | some d :: ρ, σ, L, 0, h => by
    obtain ⟨v, σ1, f1, f2, e, h1, h2, ef⟩ := h
    subst ef
    exact ⟨f2, List.sublist_append_right _ _, some v, σ1, e, h2⟩
  | none :: ρ, σ, L, i + 1, h => by
    obtain ⟨x, σ1, e, r⟩ := h
    obtain ⟨L', hs, q⟩ := relL_none i r
    exact ⟨L', hs, x, σ1, e, q⟩
  | some d :: ρ, σ, L, i + 1, h => by
    obtain ⟨v, σ1, f1, f2, e, h1, h2, ef⟩ := h
    subst ef
    obtain ⟨L', hs, q⟩ := relL_none i h2
    exact ⟨f1 ++ L', (List.Sublist.refl f1).append hs, v, σ1, f1, L', e, h1, q, rfl⟩
theorem wipeE_some {ρ : Env} {i : Nat} {d : D} : ∀ {vs : List Nat}, (wipeE ρ vs)[i]? = some (some d) → i ∉ vs ∧ ρ[i]? = some (some d)
  | [], h => ⟨by simp, h⟩
  | v :: vs, h => by
    unfold wipeE at h
    by_cases e : v = i
    · subst e
      by_cases hl : v < (wipeE ρ vs).length
      · rw [List.getElem?_set_self hl] at h; cases h
      · rw [List.getElem?_eq_none (by rw [List.length_set]; omega)] at h; cases h
    · rw [List.getElem?_set_ne e] at h
      obtain ⟨h1, h2⟩ := wipeE_some h
      exact ⟨by simp only [List.mem_cons, not_or]; exact ⟨fun z => e z.symm, h1⟩, h2⟩
theorem relL_wipe {ρ : Env} {σ : L2.St} {L : FP} (h : RelL K cA H Z ρ σ L) (vs : List Nat) : ∃ L', L'.Sublist L ∧ RelL K cA H Z (wipeE ρ vs) (wipe σ vs) L' := by
  have key : ∀ vs, ∃ L', L'.Sublist L ∧ RelL K cA H Z (wipeE ρ vs) σ L' := by
    intro vs
    induction vs with
    | nil => exact ⟨L, List.Sublist.refl _, h⟩
    | cons v vs ih =>
      obtain ⟨L1, s1, r1⟩ := ih
      obtain ⟨L2, s2, r2⟩ := relL_none v r1
      exact ⟨L2, s2.trans s1, r2⟩
  obtain ⟨L', hs, r⟩ := key vs
  refine ⟨L', hs, relL_cong r (wipe_length σ vs) fun i d e => ?_⟩
  exact wipe_out (wipeE_some e).1
theorem relL_back {H1 : Hp} {Z1 : ZS} {ρ1 ρ : Env} {σ : L2.St} {L1 L : FP} (r1 : RelL K cA H1 Z1 ρ1 σ L1) (hz : ∀ a, Z1 a → Z a) (hk : ∀ a o, Z1 a → H1 a = some o → H a = some o) : ∀ vs : List Nat, RelL K cA H Z (wipeE ρ vs) (wipe σ vs) L →
    ∃ L', L'.Sublist L ∧ RelL K cA H Z (backE ρ1 vs (wipeE ρ vs)) σ L' := by
  intro vs h
  have h0 : RelL K cA H Z (wipeE ρ vs) σ L := relL_cong h (wipe_length σ vs).symm fun i d e => (wipe_out (wipeE_some e).1).symm
  generalize wipeE ρ vs = ρw at h0
  clear h
  induction vs with
  | nil => exact ⟨L, List.Sublist.refl _, h0⟩
  | cons v vs ih =>
    obtain ⟨L', hs, r⟩ := ih
    unfold backE
    split
    · rename_i d hd
      split
      · rename_i hc
        obtain ⟨u, f0, f1, f2, hu, hr, ef, _, _⟩ := relL_at r1 hd
        have e := repD_isF d hr hc.1
        subst e
        have hr' : RepD K cA H Z d u [] := repD_mono d hz (fun a o m e => by
          rcases m with m | m
          · exact hk a o m e
          · cases m) hr
        obtain ⟨g0, g2, hs2, q⟩ := relL_set r hc.2 hr'
        rw [set_same hu] at q
        exact ⟨_, (by simpa using hs2 : (g0 ++ [] ++ g2).Sublist L').trans hs, q⟩
      · exact ⟨L', hs, r⟩
    · exact ⟨L', hs, r⟩
theorem wipe_but {σ σ2 : L2.St} {ts : List Nat} : ∀ {vs : List Nat}, (∀ i ∈ ts, i ∈ vs) → But ts (wipe σ vs) σ2 → wipe σ2 vs = wipe σ vs := by
  intro vs hsub b
  have wl : ∀ (τ : L2.St) (vs : List Nat) (i : Nat), i ∈ vs → i < τ.length → (wipe τ vs)[i]? = some none := by
    intro τ vs
    induction vs with
    | nil => intro i h; cases h
    | cons v vs ih =>
      intro i h hl
      unfold wipe
      by_cases e : v = i
      · subst e
        rw [List.getElem?_set_self (by rw [wipe_length]; exact hl)]
      · rw [List.getElem?_set_ne e]
        rcases List.mem_cons.mp h with z | z
        · exact absurd z.symm e
        · exact ih i z hl
  have len : σ2.length = σ.length := by rw [b.1, wipe_length]
  apply List.ext_getElem?
  intro i
  by_cases hi : i ∈ vs
  · by_cases hl : i < σ.length
    · rw [wl σ2 vs i hi (by omega), wl σ vs i hi hl]
    · rw [List.getElem?_eq_none (by rw [wipe_length]; omega), List.getElem?_eq_none (by rw [wipe_length]; omega)]
  · rw [wipe_out hi, b.2 i (fun m => hi (hsub i m)), wipe_out hi]
end
def lcL (vs : List Nat) (g : D → Env → Option Env) (t : Env → Out Bool) (f : Env → Out D) : List D → Env → Out (List D)
  | [], ρ => .ok [] ρ
  | d :: ds, ρ => match g d ρ with
    | none => .st
    | some ρ1 => match t ρ1 with
      | .ok true ρ2 => (match f ρ2 with
        | .ok y ρ3 => (match lcL vs g t f ds (wipeE ρ3 vs) with
          | .ok ys ρ4 => .ok (y :: ys) ρ4
          | _ => .st)
        | _ => .st)
      | .ok false ρ2 => lcL vs g t f ds (wipeE ρ2 vs)
      | _ => .st
def dLc (vs : List Nat) (src : Env → Out (List D)) (g : D → Env → Option Env) (t : Env → Out Bool) (f : Env → Out D) : Env → Out D := fun ρ => match src ρ with
  | .ok ds ρ1 => if ds.length ≤ cap then (match lcL vs g t f ds (wipeE ρ1 vs) with
    | .ok ys ρ2 => .ok (.lst true ys) (backE ρ1 vs (wipeE ρ2 vs))
    | _ => .st) else .st
  | .ex e ρ1 => .ex e ρ1
  | .st => .st
abbrev WN : WX := fun _ _ _ _ => False
def DTs (X : Cx) (cA : Str → Addr) (W : WX) (f : Env → Out Bool) (es : List Expr) : Prop := PTs X es (TTof X.K cA W f)
def dYes : Env → Out Bool := fun ρ => .ok true ρ
theorem PTs.imp {X : Cx} {es : List Expr} {t t' : TT} (h : PTs X es t) (i : ∀ σ H Q, t' σ H Q → t σ H Q) : PTs X es t' := ⟨fun pins s σ H Q I w => h.run pins s σ H Q I (i σ H Q w)⟩
theorem dts_nil {X : Cx} {cA : Str → Addr} {W : WX} : DTs X cA W dYes [] := PTs.imp pts_nil fun σ H Q ⟨Z, L, ρ, r, w, p⟩ => p H Z L r w Fr.refl
theorem dts_one {X : Cx} {cA : Str → Addr} {W : WX} {t : Env → Out Bool} {c : Expr} (h : DT X cA W t c) : DTs X cA W t [c] := pts_one h
section
variable {X : Cx} {cA : Str → Addr} {W : WX} {src : Env → Out (List D)} {ts : List Nat} {g : D → Env → Option Env} {t : Env → Out Bool} {f : Env → Out D} {iter tg elt : Expr} {ifs : List Expr} {scope : Scope} {own : List (Str × Nat)} {pos : Pos}
theorem acc_put {K : PySem.W.Frag} {H : Hp} {Z : ZS} {q : Addr} {acc : List D} {vacc : List V} {gacc fp L : FP} {y : D} {v : V} (w : Wf H Z ((q :: gacc) ++ (fp ++ L))) (hq : H q = some (.lst vacc)) (ra : RepL K cA H Z acc vacc gacc) (ry : RepD K cA H Z y v fp)
    {ρ : Env} {σ : L2.St} (r : RelL K cA H Z ρ σ L) {H0 : Hp} {Z0 : ZS} {L0 : FP} (F : Fr H0 Z0 L0 H Z ((q :: gacc) ++ (fp ++ L))) :
    RepL K cA (upd H q (.lst (vacc ++ [v]))) Z (acc ++ [y]) (vacc ++ [v]) (gacc ++ fp) ∧ RelL K cA (upd H q (.lst (vacc ++ [v]))) Z ρ σ L ∧ Wf (upd H q (.lst (vacc ++ [v]))) Z ((q :: (gacc ++ fp)) ++ L) ∧ Fr H0 Z0 L0 (upd H q (.lst (vacc ++ [v]))) Z ((q :: (gacc ++ fp)) ++ L) := by
  have nd := List.nodup_append.mp w.nd
  have nq := List.nodup_cons.mp nd.1
  have qz : ¬ Z q := w.dj q (by simp)
  have qfp : q ∉ fp := fun m => nd.2.2 q (by simp) q (by simp [m]) rfl
  have qL : q ∉ L := fun m => nd.2.2 q (by simp) q (by simp [m]) rfl
  have kn : ∀ a o, a ≠ q → H a = some o → upd H q (.lst (vacc ++ [v])) a = some o := fun a o n e => by rw [upd_ne n]; exact e
  have e1 : (q :: gacc) ++ (fp ++ L) = (q :: (gacc ++ fp)) ++ L := by simp
  rw [e1] at w F
  refine ⟨repL_mono _ (fun _ z => z) (fun a o m e => kn a o (fun z => by
    subst z
    rcases m with m | m
    · exact qz m
    · rcases List.mem_append.mp m with m | m
      · exact nq.1 m
      · exact qfp m) e) (repL_append ra (repL_one ry)), relL_mono (fun _ z => z) (fun a o m e => kn a o (fun z => by
    subst z
    rcases m with m | m
    · exact qz m
    · exact qL m) e) r, ⟨w.nd, w.dj, fun a z => ?_⟩, ⟨fun a o e n => ?_, F.zm, F.zs, F.ls⟩⟩
  · obtain ⟨o, e⟩ := w.tz a z
    by_cases h : a = q
    · subst h; exact absurd z qz
    · exact ⟨o, kn a o h e⟩
  · have e2 := F.keep a o e n
    by_cases h : a = q
    · subst h
      rcases F.ls a (by simp) with z | z
      · exact absurd z n
      · rw [z] at e; cases e
    · exact kn a o h e2
theorem te_lc {K : PySem.W.Frag} (hsub : ∀ i ∈ ts, i ∈ own.map (·.2)) : ∀ σ H Q, TEof K cA W (dLc (own.map (·.2)) src g t f) σ H Q →
    tLc (TIof K cA W src) (TGof K cA ts g) (TTof K cA WN t) (TEof K cA WN f) (own.map (·.2)) σ H Q := by
  generalize hvs : own.map (·.2) = vs at hsub ⊢
  rintro σ H Q ⟨Z, L, ρ, r, w, p⟩
  refine ⟨Z, L, ρ, r, w, ?_⟩
  unfold dLc at p
  cases hsrc : src ρ with
  | st => rw [hsrc] at p; exact p
  | ex e ρ1 => rw [hsrc] at p; exact p
  | ok ds ρ1 =>
    rw [hsrc] at p
    dsimp only at p
    split at p
    case isFalse => exact p.elim
    rename_i hcap
    intro J H1 Z1 L1 r1 w1 F1 hit q hq
    obtain ⟨Lw, sw, rw'⟩ := relL_wipe r1 vs
    have kn := keep_new (o := .lst []) hq
    -- where the turns stand
    refine ⟨fun i m Hi => m = ds.length - i ∧ i ≤ ds.length ∧ ∃ Zi Li ρi acc vacc gacc, RelL K cA Hi Zi ρi (wipe σ vs) Li ∧ Wf Hi Zi ((q :: gacc) ++ Li) ∧ Hi q = some (.lst vacc) ∧ RepL K cA Hi Zi acc vacc gacc ∧ acc.length ≤ i ∧ Fr H1 Z1 L1 Hi Zi ((q :: gacc) ++ Li) ∧ ρi = wipeE ρi vs ∧
      (match lcL vs g t f (ds.drop i) ρi with
        | .ok ys ρ2 => PostE K cA W σ H Z L Q (.ok (.lst true (acc ++ ys)) (backE ρ1 vs (wipeE ρ2 vs)))
        | _ => False), ⟨_, rfl, Nat.zero_le _, Z1, Lw, wipeE ρ1 vs, [], [], [], ?_, ?_, upd_same, ⟨rfl, rfl⟩, Nat.le_refl _, ?_, ?_, ?_⟩, ?_⟩
    · exact relL_mono (fun _ z => z) (fun a o _ e => kn a o e) rw'
    · exact wf_new (w1.less sw) hq (fun a m => relL_trk rw' a m)
    · exact (fr_new hq).less fun x m => by
        rcases List.mem_cons.mp m with z | z
        · simp [z]
        · simp [sw.subset (by simpa using z)]
    · -- wiped twice
      have key : ∀ (vs : List Nat) (ρ : Env), (∀ i ∈ vs, i < ρ.length → ρ[i]? = some none) → wipeE ρ vs = ρ := by
        intro vs
        induction vs with
        | nil => intro ρ _; rfl
        | cons v vs ih =>
          intro ρ h
          unfold wipeE
          rw [ih ρ fun i m => h i (by simp [m])]
          apply List.ext_getElem?
          intro j
          by_cases e : v = j
          · subst e
            by_cases hl : v < ρ.length
            · rw [List.getElem?_set_self hl, h v (by simp) hl]
            · rw [List.getElem?_eq_none (by rw [List.length_set]; omega), List.getElem?_eq_none (by omega)]
          · rw [List.getElem?_set_ne e]
      refine (key vs (wipeE ρ1 vs) fun i m hl => ?_).symm
      cases hx : (wipeE ρ1 vs)[i]? with
      | none =>
        have := List.getElem?_eq_none_iff.mp hx
        omega
      | some o =>
        cases o with
        | none => rfl
        | some d => exact absurd m (wipeE_some hx).1
    · rw [List.drop_zero]
      cases hl : lcL vs g t f ds (wipeE ρ1 vs) with
      | ok ys ρ2 => rw [hl] at p; exact p
      | ex e ρ2 => rw [hl] at p; exact p
      | st => rw [hl] at p; exact p
    rintro i m Hi ⟨rfl, hil, Zi, Li, ρi, acc, vacc, gacc, ri, wi, hqi, ra, hacc, Fi, hwi, qi⟩
    have wiL : Wf Hi Zi Li := wi.less (List.sublist_append_right _ _)
    -- the list waits
    have rq : RepD K cA Hi Zi (.lst true acc) (.ref q) (q :: gacc) := ⟨q, vacc, gacc, rfl, ra, ⟨hqi, fun z => nomatch z⟩, rfl, fun z => nomatch z⟩
    have FiL : Fr H1 Z1 L1 Hi Zi Li := Fi.less fun x m => by simp [m]
    obtain ⟨tn, stp⟩ := it_turn hit w1 FiL ri wiL i
    cases hd : ds[i]? with
    | none =>
      left
      have hl : ds.length ≤ i := List.getElem?_eq_none_iff.mp hd
      refine ⟨stp hl, ?_⟩
      rw [List.drop_eq_nil_of_le hl] at qi
      have qi : PostE K cA W σ H Z L Q (.ok (.lst true (acc ++ [])) (backE ρ1 vs (wipeE ρi vs))) := qi
      rw [List.append_nil] at qi
      have ri' := ri
      rw [hwi] at ri'
      obtain ⟨L', hs', rb⟩ := relL_back r1 Fi.zm (fun a o z e => Fi.keep a o e fun m => w1.dj a m z) vs ri'
      have hsub2 : ((q :: gacc) ++ L').Sublist ((q :: gacc) ++ Li) := (List.Sublist.refl _).append hs'
      exact qi (.ref q) Hi Zi L' (q :: gacc) rb (wi.less hsub2) rq (F1.trans (Fi.less fun x m => hsub2.subset m))
    | some d =>
      right
      obtain ⟨go, yl⟩ := tn d hd
      have hlt : i < ds.length := (List.getElem?_eq_some_iff.mp hd).1
      rw [drop_cons' hd] at qi
      unfold lcL at qi
      refine ⟨go, fun H' => ∃ Z' L' ρ' acc' vacc' gacc', RelL K cA H' Z' ρ' (wipe σ vs) L' ∧ Wf H' Z' ((q :: gacc') ++ L') ∧ H' q = some (.lst vacc') ∧ RepL K cA H' Z' acc' vacc' gacc' ∧ acc'.length ≤ i + 1 ∧ Fr H1 Z1 L1 H' Z' ((q :: gacc') ++ L') ∧ ρ' = wipeE ρ' vs ∧
        (match lcL vs g t f (ds.drop (i + 1)) ρ' with
          | .ok ys ρ2 => PostE K cA W σ H Z L Q (.ok (.lst true (acc' ++ ys)) (backE ρ1 vs (wipeE ρ2 vs)))
          | _ => False), ?_, fun x H' y => ?_⟩
      · rintro H' ⟨Z', L', ρ', acc', vacc', gacc', a1, a2, a3, a4, a5, a6, a7, a8⟩
        exact ⟨ds.length - (i + 1), by omega, rfl, hlt, Z', L', ρ', acc', vacc', gacc', a1, a2, a3, a4, a5, a6, a7, a8⟩
      · obtain ⟨Z2, r2, w2, F2, h2⟩ := yl x H' y
        cases hgd : g d ρi with
        | none => rw [hgd] at qi; exact qi.elim
        | some ρa =>
          rw [hgd] at qi
          refine ⟨d, Z2, Li, ρi, ρa, r2, w2, h2, hgd, fun σa Ha Za La ra' wa Fa ba => ?_⟩
          have hwσ := wipe_but hsub ba
          refine ⟨hwσ, ?_⟩
          have FA : Fr Hi Zi Li Ha Za La := F2.trans Fa
          refine ⟨Za, La, ρa, ra', wa, ?_⟩
          dsimp only at qi
          have idem : ∀ ρ : Env, wipeE ρ vs = wipeE (wipeE ρ vs) vs := by
            intro ρ
            have key : ∀ (us : List Nat) (ρ : Env), (∀ i ∈ us, i < ρ.length → ρ[i]? = some none) → wipeE ρ us = ρ := by
              intro us
              induction us with
              | nil => intro ρ _; rfl
              | cons v us ih =>
                intro ρ h
                unfold wipeE
                rw [ih ρ fun i m => h i (by simp [m])]
                apply List.ext_getElem?
                intro j
                by_cases e : v = j
                · subst e
                  by_cases hl : v < ρ.length
                  · rw [List.getElem?_set_self hl, h v (by simp) hl]
                  · rw [List.getElem?_eq_none (by rw [List.length_set]; omega), List.getElem?_eq_none (by omega)]
                · rw [List.getElem?_set_ne e]
            refine (key vs (wipeE ρ vs) fun i m hl => ?_).symm
            cases hx : (wipeE ρ vs)[i]? with
            | none =>
              have := List.getElem?_eq_none_iff.mp hx
              omega
            | some o =>
              cases o with
              | none => rfl
              | some d => exact absurd m (wipeE_some hx).1
          cases ht : t ρa with
          | st => rw [ht] at qi; exact qi
          | ex e ρ2 => rw [ht] at qi; exact qi.elim
          | ok bb ρ2 =>
            rw [ht] at qi
            intro Hb Zb Lb rb wb Fb
            have FB : Fr Hi Zi Li Hb Zb Lb := FA.trans Fb
            cases bb with
            | false =>
              rw [if_neg Bool.false_ne_true]
              obtain ⟨Lw2, sw2, rw2⟩ := relL_wipe rb vs
              rw [hwσ] at rw2
              have wB := wi.wait (repD_trk _ rq) FB wb
              have rqB := repD_wait wi rq FB
              have sub3 : ((q :: gacc) ++ Lw2).Sublist ((q :: gacc) ++ Lb) := (List.Sublist.refl _).append sw2
              obtain ⟨p0, vs0, g0, e0, e1, e2, e3, _⟩ := rep_lst rqB
              cases e0
              rw [if_pos rfl] at e3
              cases e3
              exact ⟨Zb, Lw2, wipeE ρ2 vs, acc, vs0, gacc, rw2, wB.less sub3, e1, e2, by omega, (Fi.wait wi FB).less fun x m => sub3.subset m, idem ρ2, qi⟩
            | true =>
              rw [if_pos rfl]
              dsimp only at qi
              refine ⟨Zb, Lb, ρ2, rb, wb, ?_⟩
              cases hfv : f ρ2 with
              | st => rw [hfv] at qi; exact qi
              | ex e ρ3 => rw [hfv] at qi; exact qi.elim
              | ok yv ρ3 =>
                rw [hfv] at qi
                intro v Hc Zc Lc fpc rc wc hc Fc
                dsimp only at qi
                have FC : Fr Hi Zi Li Hc Zc (fpc ++ Lc) := FB.trans Fc
                have wC := wi.wait (repD_trk _ rq) FC wc
                have rqC := repD_wait wi rq FC
                have FC1 := Fi.wait wi FC
                obtain ⟨p0, vs0, g0, e0, e1, e2, e3, _⟩ := rep_lst rqC
                cases e0
                rw [if_pos rfl] at e3
                cases e3
                have len := repL_len e2
                refine ⟨vs0, e1, cap_lt (by omega), ?_⟩
                obtain ⟨b1, b2, b3, b4⟩ := acc_put wC e1 e2 hc rc FC1
                obtain ⟨Lw2, sw2, rw2⟩ := relL_wipe b2 vs
                rw [hwσ] at rw2
                have sub3 : ((q :: (gacc ++ fpc)) ++ Lw2).Sublist ((q :: (gacc ++ fpc)) ++ Lc) := (List.Sublist.refl _).append sw2
                refine ⟨Zc, Lw2, wipeE ρ3 vs, acc ++ [yv], vs0 ++ [v], gacc ++ fpc, rw2, b3.less sub3, upd_same, b1, by simp; omega, b4.less fun x m => sub3.subset m, idem ρ3, ?_⟩
                cases hrest : lcL vs g t f (ds.drop (i + 1)) (wipeE ρ3 vs) with
                | st => rw [hrest] at qi; exact qi
                | ex e ρ4 => rw [hrest] at qi; exact qi
                | ok ys ρ4 =>
                  rw [hrest] at qi
                  show PostE K cA W σ H Z L Q (.ok (.lst true ((acc ++ [yv]) ++ ys)) _)
                  rw [List.append_assoc]
                  exact qi
theorem de_lc (hc : X.calm = true) (hN : X.N.Nodup) (hi : DI X cA W src tg iter) (ok : BlkOk X.N X.env.scope scope own) (hsub : ∀ i ∈ ts, i ∈ own.map (·.2))
    (hg : ∀ (s : Shared) (H : Hp) (C : Addr) (cl : List (Str × Addr)) (fp : List Addr), DG (X.blk s H scope (compEnvC scope cl C X.env) fp) cA ts g tg)
    (ht : ∀ (s : Shared) (H : Hp) (C : Addr) (cl : List (Str × Addr)) (fp : List Addr), DTs (X.blk s H scope (compEnvC scope cl C X.env) fp) cA WN t ifs)
    (he : ∀ (s : Shared) (H : Hp) (C : Addr) (cl : List (Str × Addr)) (fp : List Addr), DE (X.blk s H scope (compEnvC scope cl C X.env) fp) cA WN f elt) (hs : ∀ x, foldedSetIterable iter X.env x = pure x := by intro _; kernel_rfl) :
    DE X cA W (dLc (own.map (·.2)) src g t f) (.ListComp elt [⟨tg, iter, ifs, 0⟩] scope pos) := PE.imp (pe_lc (g := TGof X.K cA ts g) (tt := TTof X.K cA WN t) (te := TEof X.K cA WN f) hc hN hi ok hg ht he hs) (te_lc hsub)
theorem ds_setLc {k : Option Nat} {i : Nat} {y : Str} {py spos : Pos} (hc : X.calm = true) (hN : X.N.Nodup) (hy : X.N[i]? = some y) (hyl : X.env.scope.names.lookup y = some .local)
    (hsw : swapsWith (.ListComp elt [⟨tg, iter, ifs, 0⟩] scope pos) (some (.Name y py)) spos.line X.env = pure true) (hi : DI X cA W src tg iter) (ok : BlkOk X.N X.env.scope scope own) (hsub : ∀ i ∈ ts, i ∈ own.map (·.2))
    (hg : ∀ (s : Shared) (H : Hp) (C : Addr) (cl : List (Str × Addr)) (fp : List Addr), DG (X.blk s H scope (compEnvC scope cl C X.env) fp) cA ts g tg)
    (ht : ∀ (s : Shared) (H : Hp) (C : Addr) (cl : List (Str × Addr)) (fp : List Addr), DTs (X.blk s H scope (compEnvC scope cl C X.env) fp) cA WN t ifs)
    (he : ∀ (s : Shared) (H : Hp) (C : Addr) (cl : List (Str × Addr)) (fp : List Addr), DE (X.blk s H scope (compEnvC scope cl C X.env) fp) cA WN f elt) (hk : k ≠ some i := by decide) (hs : ∀ x, foldedSetIterable iter X.env x = pure x := by intro _; kernel_rfl) :
    DS X cA W k (dBind (dLc (own.map (·.2)) src g t f) (stSet i)) (.Assign [.Name y py] (.ListComp elt [⟨tg, iter, ifs, 0⟩] scope pos) spos) :=
  ds_of (L2.ps_setLc (g := TGof X.K cA ts g) (tt := TTof X.K cA WN t) (te := TEof X.K cA WN f) hc hN hy hyl hsw hi ok hg ht he hs) fun T σ H Z L ρ r w p => te_lc hsub σ H _ (bind_te r w p fun d ρ1 v H1 Z1 L1 fp hd r1 w1 h1 F1 p => put_slot hk r1 w1 h1 F1 p)
end
theorem ds_frz {X : Cx} {cA : Str → Addr} {W : WX} {k : Option Nat} {f : Env → Fl} {st : Stmt} (i : Nat) (h : DS X cA W k f st) (hk : k ≠ some i := by decide) : DS X cA W k (dSeq f fun ρ => match ρ[i]? with | some (some d) => .nx (ρ.set i (some (frz d))) | _ => .nx ρ) st :=
  ds_of h fun T σ H Z L ρ r w p => ⟨Z, L, ρ, r, w, by
    unfold dSeq at p
    cases hf : f ρ with
    | st => rw [hf] at p; exact p
    | bk ρ1 => rw [hf] at p; exact p
    | ct ρ1 => rw [hf] at p; exact p
    | rt d ρ1 => rw [hf] at p; exact p
    | ex e ρ1 => rw [hf] at p; exact p
    | nx ρ1 =>
      rw [hf] at p
      intro σ1 H1 Z1 L1 r1 w1 F1 q1
      dsimp only at p
      split at p
      · rename_i d hd
        obtain ⟨v, f0, f1, f2, hv, hr, ef, put, _⟩ := relL_at r1 hd
        have pm : L1.Perm (f1 ++ (f0 ++ f2)) := by
          rw [ef, List.append_assoc]
          exact (List.perm_append_comm_assoc f0 f1 f2)
        have q := put (H' := H1) (Z' := ZU Z1 f1) zu_sub (fun _ _ _ e => e) (repD_zu hr)
        rw [set_same hv, List.append_nil] at q
        exact p σ1 H1 _ _ q ((w1.perm pm).freeze (repD_trk d hr)) (Fr.freeze (F1.less fun x m => pm.mem_iff.mpr m)) q1
      · exact p σ1 H1 Z1 L1 r1 w1 F1 q1⟩
end DL
namespace DL
open PySem L2
section
variable {K : PySem.W.Frag} {cA : Str → Addr} {H : Hp} {Z : ZS}
theorem rep_ins {C : Str} {fs : List Str} {o : Bool} {xs : List D} {v : V} {fp : FP} (h : RepD K cA H Z (.n (.ins C fs) o xs) v fp) : ∃ p vs g dx, v = .ref p ∧ H p = some (.ins (cA C) dx (fs.zip vs)) ∧ fs.length = vs.length ∧ Cls K (cA C) ∧ (∀ f ∈ fs, NoAttr K (cA C) f) ∧
    RepL K cA H Z xs vs g ∧ fp = (if o then p :: g else []) ∧ (o = false → Z p ∧ g = []) := by
  obtain ⟨p, vs, g, e, hl, ⟨⟨dx, e1⟩, ⟨e2, e3, e4⟩, e5⟩, ef, hg⟩ := h
  exact ⟨p, vs, g, dx, e, e1, e2, e3, e4, hl, ef, fun q => ⟨e5 q, hg q⟩⟩
theorem zip_look {f : Str} : ∀ {fs : List Str} {xs : List D} {vs : List V} {g : FP} {d : D}, RepL K cA H Z xs vs g → (fs.zip xs).lookup f = some d → f ∈ fs ∧ ∃ v f0 f1 f2, (fs.zip vs).lookup f = some v ∧ RepD K cA H Z d v f1 ∧ g = f0 ++ f1 ++ f2
  | [], xs, vs, g, d, h, e => by simp at e
  | f' :: fs, [], vs, g, d, h, e => by simp at e
  | f' :: fs, x :: xs, vs, g, d, h, e => by
    obtain ⟨v, vs', f1, f2, ev, h1, h2, ef⟩ := h
    subst ev ef
    rw [List.zip_cons_cons, List.lookup_cons] at e
    rw [List.zip_cons_cons, List.lookup_cons]
    cases hf : f == f' with
    | true =>
      rw [hf] at e
      cases e
      have : f = f' := by simpa using hf
      exact ⟨by simp [this], v, [], f1, f2, rfl, h1, by simp⟩
    | false =>
      rw [hf] at e
      obtain ⟨m, u, g0, g1, g2, hu, hr, eg⟩ := zip_look h2 e
      exact ⟨by simp [m], u, f1 ++ g0, g1, g2, hu, hr, by rw [eg]; simp⟩
theorem zip_none {f : Str} : ∀ {fs : List Str} {vs : List V}, f ∉ fs → (fs.zip vs).lookup f = none
  | [], vs, _ => by simp
  | f' :: fs, [], _ => by simp
  | f' :: fs, v :: vs, h => by
    rw [List.zip_cons_cons, List.lookup_cons]
    have : (f == f') = false := by
      rw [beq_eq_false_iff_ne]
      exact fun e => h (by simp [e])
    rw [this]
    exact zip_none fun m => h (by simp [m])
theorem putF_new {f : Str} {v : V} : ∀ {fs : List Str} {vs : List V}, f ∉ fs → fs.length = vs.length → putF f v (fs.zip vs) = (fs ++ [f]).zip (vs ++ [v])
  | [], vs, _, hl => by
    have : vs = [] := List.eq_nil_of_length_eq_zero hl.symm
    subst this
    rfl
  | f' :: fs, [], _, hl => by simp at hl
  | f' :: fs, u :: vs, h, hl => by
    show (if f' = f then (f', v) :: fs.zip vs else (f', u) :: putF f v (fs.zip vs)) = _
    rw [if_neg fun e => h (by simp [e])]
    rw [putF_new (fun m => h (by simp [m])) (by simpa using hl)]
    rfl
end
def gFld (f : Str) : D → Option D
  | .n (.ins _ fs) _ xs => (match (fs.zip xs).lookup f with
    | some d => if isF d = true then some d else none
    | none => none)
  | _ => none
section
variable {X : Cx} {cA : Str → Addr} {W : WX} {fa : Env → Out D} {e o : Expr} {pos : Pos}
theorem de_fld {f : Str} (he : DP X cA W fa e) (hb : attributeBase e f X.env (eval e X.env) = eval e X.env := by kernel_rfl) : DE X cA W (dU (gFld f) fa) (.Attribute e f pos) :=
  PE.imp (pe_fld he hb) (te_un (r := fun x H1 Q => ∃ a C dx fs v, x = .ref a ∧ H1 a = some (.ins C dx fs) ∧ Cls X.K C ∧ NoAttr X.K C f ∧ fs.lookup f = some v ∧ Q v H1) (by
    refine ⟨@fun d1 d v1 H Z f1 Q h1 w hg q => ?_⟩
    unfold gFld at hg
    split at hg
    · rename_i C fs oo xs
      split at hg
      · rename_i d' hl
        split at hg
        · rename_i hF
          cases hg
          obtain ⟨p, vs, g, dx, rfl, e1, e2, e3, e4, rl, _, _⟩ := rep_ins h1
          obtain ⟨m, v, f0, f1, f2, hv, hr, eg⟩ := zip_look rl hl
          have efp := repD_isF _ hr hF
          subst efp
          exact ⟨p, cA C, dx, _, v, rfl, e1, e3, e4 f m, hv, q v H Z [] hr w Fr.refl⟩
        · cases hg
      · cases hg
    · cases hg))
def stFld (C f : Str) (i : Nat) (d : D) (ρ : Env) : Fl := match ρ[i]? with
  | some (some (.n (.ins C' fs) true xs)) => if C' = C ∧ f ∉ fs ∧ xs.length < 900 then .nx (ρ.set i (some (.n (.ins C (fs ++ [f])) true (xs ++ [d])))) else .st
  | _ => .st
theorem ds_fld {k : Option Nat} {C f : Str} {i : Nat} {pos' : Pos} (hC : Cls X.K (cA C)) (hf : NoAttr X.K (cA C) f) (ho : PE X o (tVar i)) (he : DE X cA W fa e) (hs : swapsWith e (some (.Attribute o f pos')) pos.line X.env = pure false := by kernel_rfl) :
    DS X cA W k (dBind fa (stFld C f i)) (.Assign [.Attribute o f pos'] e pos) := ds_of (ps_fld ho he hs) fun T σ H Z L ρ r w p => bind_te r w p fun d ρ1 v H1 Z1 L1 fp hd r1 w1 h1 F1 p => by
  unfold stFld at p
  split at p
  · rename_i C' fs xs hx
    split at p
    · rename_i hc
      obtain ⟨rfl, hnf, hlen⟩ := hc
      obtain ⟨u, f0, f1, f2, hv, hr, eL, put, _⟩ := relL_at r1 hx
      obtain ⟨q, vs, g, dx, rfl, e1, e2, e3, e4, rl, ef1, _⟩ := rep_ins hr
      rw [if_pos rfl] at ef1
      subst ef1
      have len := repL_len rl
      have zl : (fs.zip vs).length < 1000 := by rw [List.length_zip]; omega
      refine ⟨_, hv, q, cA C', dx, _, rfl, e1, e3, hf, zl, ?_⟩
      rw [putF_new hnf e2]
      -- the instance is written
      have nd := List.nodup_append.mp w1.nd
      rw [eL] at nd
      have ndL := List.nodup_append.mp nd.2.1
      have ndL1 := List.nodup_append.mp ndL.1
      have ndp := List.nodup_cons.mp ndL1.2.1
      have pz : ¬ Z1 q := w1.dj q (by rw [eL]; simp)
      have pf0 : q ∉ f0 := fun m => ndL1.2.2 q m q (by simp) rfl
      have pf2 : q ∉ f2 := fun m => ndL.2.2 q (by simp) q m rfl
      have pfp : q ∉ fp := fun m => nd.2.2 q m q (by simp) rfl
      generalize hH2 : upd H1 q (.ins (cA C') dx ((fs ++ [f]).zip (vs ++ [v]))) = H2
      have kn : ∀ a o, a ≠ q → H1 a = some o → H2 a = some o := fun a o n e => by rw [← hH2, upd_ne n]; exact e
      have h2q : H2 q = some (.ins (cA C') dx ((fs ++ [f]).zip (vs ++ [v]))) := by rw [← hH2]; exact upd_same
      have ra := repL_append rl (repL_one h1)
      have rep' : RepD X.K cA H2 Z1 (.n (.ins C' (fs ++ [f])) true (xs ++ [d])) (.ref q) (q :: (g ++ fp)) :=
        ⟨q, _, g ++ fp, rfl, repL_mono _ (fun _ z => z) (fun a o m e => kn a o (fun z => by
          subst z
          rcases m with m | m
          · exact pz m
          · rcases List.mem_append.mp m with m | m
            · exact ndp.1 m
            · exact pfp m) e) ra, ⟨⟨dx, h2q⟩, ⟨by simp [e2], e3, fun f' m => by
              rcases List.mem_append.mp m with m | m
              · exact e4 f' m
              · have : f' = f := by simpa using m
                rw [this]; exact hf⟩, fun z => nomatch z⟩, rfl, fun z => nomatch z⟩
      have q' := put (H' := H2) (Z' := Z1) (fun _ z => z) (fun a o m e => kn a o (fun z => by
        subst z
        rcases m with m | m | m
        · exact pz m
        · exact pf0 m
        · exact pf2 m) e) rep'
      rw [set_same hv] at q'
      have pm : (fp ++ (f0 ++ (q :: g) ++ f2)).Perm (f0 ++ (q :: (g ++ fp)) ++ f2) := by
        have a1 : (f0 ++ (q :: (g ++ fp)) ++ f2) = f0 ++ (q :: g) ++ (fp ++ f2) := by simp
        rw [a1]
        have a2 : (fp ++ (f0 ++ (q :: g) ++ f2)) = fp ++ ((f0 ++ (q :: g)) ++ f2) := rfl
        rw [a2]
        exact List.perm_append_comm_assoc fp (f0 ++ (q :: g)) f2
      rw [eL] at w1 F1
      have w2 := w1.perm pm
      refine p σ H2 Z1 _ q' ⟨w2.nd, w2.dj, fun a z => ?_⟩ ⟨fun a o e n => ?_, F1.zm, F1.zs, fun a m => F1.ls a (pm.mem_iff.mpr m)⟩ Pin.refl
      · obtain ⟨o, e⟩ := w1.tz a z
        by_cases h : a = q
        · subst h; exact absurd z pz
        · exact ⟨o, kn a o h e⟩
      · have e1 := F1.keep a o e n
        by_cases h : a = q
        · subst h
          rcases F1.ls a (by simp) with z | z
          · exact absurd z n
          · rw [z] at e; cases e
        · exact kn a o h e1
    · exact p.elim
  · exact p.elim
end
def dMeth (C m : Str) (n : Nat) (F : List D → FR) (fa : Env → Out D) (g : Env → Out (List Ag)) : Env → Out D := fun ρ => match fa ρ with
  | .ok (.n (.ins C' fs) false xs) ρ1 => if C' = C ∧ m ∉ fs ∧ isFL xs = true then dCall n (fun ds => F (.n (.ins C fs) false xs :: ds)) g ρ1 else .st
  | .ok _ _ => .st
  | .ex e ρ1 => .ex e ρ1
  | .st => .st
def dMake (C : Str) (n : Nat) (F : List D → FR) (g : Env → Out (List Ag)) : Env → Out D := fun ρ => match g ρ with
  | .ok ds ρ1 => (match agL ds with
    | some xs => if xs.length = n then (match F (.n (.ins C []) true [] :: frzL xs) with
      | .rt (.a .non) (some d) => .ok d ρ1
      | .ex e _ => .ex e ρ1
      | _ => .st) else .st
    | none => .st)
  | .ex e ρ1 => .ex e ρ1
  | .st => .st
section
variable {X : Cx} {cA : Str → Addr} {W : WX} {fa : Env → Out D} {g : Env → Out (List Ag)} {k n : Nat} {kio : Option Nat} {f : Addr} {fd : FuncData} {ps : List Str} {F : List D → FR} {x m : Str} {p pos apos : Pos} {o e : Expr} {es : List Expr}
def tMethS (C : Addr) (m : Str) (sp : Sp) (E : L2.St → XK) (ta : TE) (t : TA) : TE := fun σ H Q => ta σ H fun x H1 => ∃ a dx fs, x = .ref a ∧ H1 a = some (.ins C dx fs) ∧ fs.lookup m = none ∧ t σ H1 fun vs H2 => sp (x :: vs) H2 Q (E σ)
theorem pe_methS {C : Addr} {sp : Sp} {E : L2.St → XK} {ta : TE} {t : TA} {pl : Sem Bool} (he : PE X o ta) (c : Cls X.K C) (hm : Meth X.K C m f) (F : FnOk X.prog X.w X.K X.mg X.base (L2.CX X.prog X.w) k f fd ps sp) (hr : Room k X.A) (hb : Binds X.K fd ps []) (hx : ∀ σ, PassesAt (L2.CX X.prog X.w) X σ (E σ)) (ha : PA X (e :: es) t)
    (hst : starEach (e :: es) X.env = (false, eval e X.env) :: starEach es X.env := by kernel_rfl) (hpl : (backTo pos (starEach es X.env)).any (·.1) = false := by kernel_rfl)
    (ht : eval (.Call (.Attribute o m apos) (e :: es) [] pos) X.env = (do
      let ov ← eval o X.env
      standAt apos.atName
      let (f, first) ← holding [ov] (getMethod ov m pl)
      callWith pos f first (backTo pos (starEach (e :: es) X.env)) (backToKw pos (keywordEach [] X.env))) := by rfl) :
    PE X (.Call (.Attribute o m apos) (e :: es) [] pos) (tMethS C m sp E ta t) := by
  refine ⟨fun pins s σ H Q I h => ?_⟩
  refine PySem.W.methodCall_KW (pl := pl) (thn (he.run pins s σ H _ I h) fun u s1 ⟨x, H1, I1, rx, a, dx, fs, ex, ea, l, q⟩ => ?_) ht
  subst ex
  obtain rfl : u = Value.ref a := rx
  refine getmeth_ok I1 ea c hm l ?_
  refine PySem.W.callWith_K (first := [.ref a]) (h₀ := X.base) I.ok.mod.kin hm.kp (thn (ha.run pos pins s1 σ H1 _ I1 q) fun us s2 ⟨vs, H2, I2, r, q2⟩ => ⟨I2.kIn, ?_⟩) hst hpl
  exact run_fnS (us := .ref a :: us) (vs := .ref a :: vs) F hr hb (hx σ) I2 (.cons rfl r) q2
theorem pe_methS0 {C : Addr} {sp : Sp} {E : L2.St → XK} {ta : TE} {pl : Sem Bool} (he : PE X o ta) (c : Cls X.K C) (hm : Meth X.K C m f) (F : FnOk X.prog X.w X.K X.mg X.base (L2.CX X.prog X.w) k f fd ps sp) (hr : Room k X.A) (hb : Binds X.K fd ps []) (hx : ∀ σ, PassesAt (L2.CX X.prog X.w) X σ (E σ))
    (ht : eval (.Call (.Attribute o m apos) [] [] pos) X.env = (do
      let ov ← eval o X.env
      standAt apos.atName
      let (f, first) ← holding [ov] (getMethod ov m pl)
      callWith pos f first (backTo pos (starEach [] X.env)) (backToKw pos (keywordEach [] X.env))) := by rfl) :
    PE X (.Call (.Attribute o m apos) [] [] pos) (tMethS C m sp E ta tNil) := by
  refine ⟨fun pins s σ H Q I h => ?_⟩
  refine PySem.W.methodCall_KW (pl := pl) (thn (he.run pins s σ H _ I h) fun u s1 ⟨x, H1, I1, rx, a, dx, fs, ex, ea, l, q⟩ => ?_) ht
  subst ex
  obtain rfl : u = Value.ref a := rx
  refine getmeth_ok I1 ea c hm l ?_
  exact PySem.W.callWith_K0 (first := [.ref a]) I1.kIn hm.kp (run_fnS (us := [.ref a]) (vs := [.ref a]) F hr hb (hx σ) I1 (.cons rfl .nil) q)
theorem te_meth {K : PySem.W.Frag} {C : Str} : ∀ σ H Q, TEof K cA W (dMeth C m n F fa g) σ H Q → tMethS (cA C) m (spF K cA (n + 1) kio F) (WE W) (TEof K cA W fa) (TAof K cA W g) σ H Q := by
  rintro σ H Q ⟨Z, L, ρ, r, w, p⟩
  refine ⟨Z, L, ρ, r, w, ?_⟩
  unfold dMeth at p
  cases ha : fa ρ with
  | st => rw [ha] at p; exact p
  | ex e ρ' => rw [ha] at p; exact p
  | ok d ρ1 =>
    rw [ha] at p
    intro v H1 Z1 L1 f1 r1 w1 h1 F1
    split at p
    · rename_i C' fs xs ρ1' eo
      cases eo
      split at p
      · rename_i hc
        obtain ⟨rfl, hm, hF⟩ := hc
        have hisf : isF (.n (.ins C' fs) false xs) = true := by
          show (!false && isFL xs) = true
          rw [hF]; rfl
        have efp := repD_isF _ h1 hisf
        subst efp
        obtain ⟨q, vs, gg, dx, rfl, e1, e2, e3, e4, rl, _, zz⟩ := rep_ins h1
        refine ⟨q, dx, _, rfl, e1, zip_none hm, Z1, L1, ρ1, r1, w1, ?_⟩
        unfold dCall at p
        cases hg : g ρ1 with
        | st => rw [hg] at p; exact p
        | ex e ρ' => rw [hg] at p; exact exw p F1
        | ok ds ρ2 =>
          rw [hg] at p
          intro us H2 Z2 L2 f2 r2 w2 h2 F2
          dsimp only at p
          split at p
          · rename_i ys hy
            split at p
            · rename_i hn
              have hL := repA_L hy h2
              have hself : RepD K cA H2 Z2 (.n (.ins C' fs) false xs) (.ref q) [] := repD_wait (fp := []) w1 h1 F2
              have hall : RepL K cA H2 Z2 (.n (.ins C' fs) false xs :: ys) (.ref q :: us) f2 := ⟨.ref q, us, [], f2, rfl, hself, hL, rfl⟩
              refine call_in (xs := .n (.ins C' fs) false xs :: ys) (by simp [hn]) r2 w2 hall (F1.trans F2) ?_
              have efr : frzL (.n (.ins C' fs) false xs :: ys) = .n (.ins C' fs) false xs :: frzL ys := by
                show frz _ :: frzL ys = _
                rw [frz_isF _ hisf]
              rw [efr]
              exact p
            · exact p.elim
          · exact p.elim
      · exact p.elim
    · exact p.elim
    · rename_i e; cases e
    · rename_i e; cases e
theorem de_meth {C : Str} {pl : Sem Bool} (ho : DE X cA W fa o) (c : Cls X.K (cA C)) (hm : Meth X.K (cA C) m f) (Fo : FnOk X.prog X.w X.K X.mg X.base (L2.CX X.prog X.w) k f fd ps (spF X.K cA (n + 1) kio F)) (hr : Room k X.A) (hb : Binds X.K fd ps []) (tk : Takes X W) (ha : DA X cA W g (e :: es))
    (hst : starEach (e :: es) X.env = (false, eval e X.env) :: starEach es X.env := by kernel_rfl) (hpl : (backTo pos (starEach es X.env)).any (·.1) = false := by kernel_rfl)
    (ht : eval (.Call (.Attribute o m apos) (e :: es) [] pos) X.env = (do
      let ov ← eval o X.env
      standAt apos.atName
      let (f, first) ← holding [ov] (getMethod ov m pl)
      callWith pos f first (backTo pos (starEach (e :: es) X.env)) (backToKw pos (keywordEach [] X.env))) := by rfl) :
    DE X cA W (dMeth C m n F fa g) (.Call (.Attribute o m apos) (e :: es) [] pos) := PE.imp (pe_methS ho c hm Fo hr hb (passAt tk) ha hst hpl ht) te_meth
theorem de_meth0 {C : Str} {pl : Sem Bool} (ho : DE X cA W fa o) (c : Cls X.K (cA C)) (hm : Meth X.K (cA C) m f) (Fo : FnOk X.prog X.w X.K X.mg X.base (L2.CX X.prog X.w) k f fd ps (spF X.K cA (0 + 1) kio F)) (hr : Room k X.A) (hb : Binds X.K fd ps []) (tk : Takes X W)
    (ht : eval (.Call (.Attribute o m apos) [] [] pos) X.env = (do
      let ov ← eval o X.env
      standAt apos.atName
      let (f, first) ← holding [ov] (getMethod ov m pl)
      callWith pos f first (backTo pos (starEach [] X.env)) (backToKw pos (keywordEach [] X.env))) := by rfl) :
    DE X cA W (dMeth C m 0 F fa dANil) (.Call (.Attribute o m apos) [] [] pos) := PE.imp (pe_methS0 ho c hm Fo hr hb (passAt tk) ht) fun σ H Q p => by
  have q := te_meth (kio := kio) (g := dANil) σ H Q p
  obtain ⟨Z, L, ρ, r, w, q⟩ := q
  refine ⟨Z, L, ρ, r, w, ?_⟩
  cases ha : fa ρ with
  | st => rw [ha] at q; exact q
  | ex e ρ' => rw [ha] at q; exact q
  | ok d ρ1 =>
    rw [ha] at q
    intro v H1 Z1 L1 f1 r1 w1 h1 F1
    obtain ⟨a, dx, fs, e1, e2, e3, Z2, L2, ρ2, r2, w2, q2⟩ := q v H1 Z1 L1 f1 r1 w1 h1 F1
    exact ⟨a, dx, fs, e1, e2, e3, q2 [] H1 Z2 L2 [] r2 w2 ⟨rfl, rfl⟩ Fr.refl⟩
def tMakeS (C : Addr) (sp : Sp) (E : L2.St → XK) (t : TA) : TE := fun σ H Q => t σ H fun vs H1 => ∀ x dx, H1 x = none → H1 dx = none → dx ≠ x →
  sp (.ref x :: vs) (upd (upd H1 dx (.own x)) x (.ins C dx [])) (fun v H2 => v = .non ∧ Q (.ref x) H2) (E σ)
theorem pe_makeS {C : Addr} {sp : Sp} {E : L2.St → XK} {t : TA} (M : Mk X.K C f) (F : FnOk X.prog X.w X.K X.mg X.base (L2.CX X.prog X.w) k f fd ps sp) (hr : Room (k + 1) X.A) (hg : Gl X x) (hm : X.mg x = some (.ref C)) (hb : Binds X.K fd ps []) (hx : ∀ σ, PassesAt (L2.CX X.prog X.w) X σ (E σ))
    (ha : PA X (e :: es) t) (hdb : (x == ("__debug__" : Str)) = false := by kernel_rfl) (he : starEach (e :: es) X.env = (false, eval e X.env) :: starEach es X.env := by kernel_rfl) (hpl : (backTo pos (starEach es X.env)).any (·.1) = false := by kernel_rfl) :
    PE X (.Call (.Name x p) (e :: es) [] pos) (tMakeS C sp E t) := by
  refine ⟨fun pins s σ H Q I h => ?_⟩
  refine wpAny_Call_Name_kw (ld_glob I hg hm ?_ hdb)
  refine PySem.W.callWith_K (h₀ := X.base) I.ok.mod.kin M.kp (thn (ha.run pos pins s σ H _ I h) fun us s1 ⟨vs, H1, I1, r, q⟩ => ⟨I1.kIn, ?_⟩) he hpl
  -- as in run_make, what is raised wished for at the slots
  have hq := q (s1.heap.objs.size + 1) s1.heap.objs.size (I1.hok.fresh (Nat.le_succ _)) (I1.hok.fresh (Nat.le_refl _)) (Nat.ne_of_lt (Nat.lt_succ_self _))
  have I2 := Inv.made (C := C) I1
  have r2 : Vals (V.ref (s1.heap.objs.size + 1) :: vs) (Value.ref (s1.heap.objs.size + 1) :: us) := .cons rfl r
  have hl : (Value.ref (s1.heap.objs.size + 1) :: us).length = ps.length := by
    have e := r2.length
    rw [F.len _ _ _ _ hq] at e
    exact e.symm
  have b := hb _ (Value.ref (s1.heap.objs.size + 1) :: us) I2.kIn (by rw [List.append_nil]; exact hl)
  rw [List.append_nil] at b
  refine wpAny_call (make_map (f := f) I1.kIn M.makes M.init (beq_iff_eq.mp M.fn) (codeAny_mono (F.run _ X.stack _ _ ⟨Value.ref (s1.heap.objs.size + 1) :: us, []⟩ (Value.ref (s1.heap.objs.size + 1) :: us) _ _ (E σ) (hr.make C us [])
    (I2.env0.make C us []) b r2 hq) fun r s' hq' => ?_))
  cases r with
  | error e => exact hx σ pins _ _ e s' I2 hq'
  | ok fl =>
    cases fl with
    | ret u =>
      obtain ⟨v, H', I3, rv, ev, q3⟩ := I2.after hq'
      subst ev
      exact ⟨rv, ⟨V.ref (s1.heap.objs.size + 1), H', I3, rfl, q3⟩⟩
    | next => exact False.elim hq'
    | brk => exact False.elim hq'
    | cont => exact False.elim hq'
theorem te_make {K : PySem.W.Frag} {C : Str} (hC : Cls K (cA C)) : ∀ σ H Q, TEof K cA W (dMake C n F g) σ H Q → tMakeS (cA C) (spF K cA (n + 1) (some 0) F) (WE W) (TAof K cA W g) σ H Q := by
  rintro σ H Q ⟨Z, L, ρ, r, w, p⟩
  refine ⟨Z, L, ρ, r, w, ?_⟩
  unfold dMake at p
  cases hg : g ρ with
  | st => rw [hg] at p; exact p
  | ex e ρ' => rw [hg] at p; exact p
  | ok ds ρ1 =>
    rw [hg] at p
    intro vs H1 Z1 L1 f1 r1 w1 h1 F1
    dsimp only at p
    split at p
    · rename_i xs hx
      split at p
      · rename_i hn
        intro x dx nx ndx ne
        have hL := repA_L hx h1
        have wz := w1.freeze (repL_trk xs hL)
        have hf := repL_zu hL
        have Fz := F1.freeze
        generalize hH2 : upd (upd H1 dx (.own x)) x (.ins (cA C) dx []) = H2
        have kn : ∀ a o, H1 a = some o → H2 a = some o := fun a o e => by rw [← hH2, upd_ne (ne_of_none e nx), upd_ne (ne_of_none e ndx)]; exact e
        have h2x : H2 x = some (.ins (cA C) dx []) := by rw [← hH2]; exact upd_same
        have rx : RepD K cA H2 (ZU Z1 f1) (.n (.ins C []) true []) (.ref x) [x] := ⟨x, [], [], rfl, ⟨rfl, rfl⟩, ⟨⟨dx, h2x⟩, ⟨rfl, hC, fun f m => nomatch m⟩, fun z => nomatch z⟩, rfl, fun z => nomatch z⟩
        have xz : ¬ ZU Z1 f1 x := fun z => by obtain ⟨o, e⟩ := wz.tz x z; rw [nx] at e; cases e
        have w2 : Wf H2 (ZU Z1 f1) (([x] : FP) ++ L1) := ⟨List.nodup_append.mpr ⟨by simp, wz.nd, fun a ha b hb e => by
          have : a = x := by simpa using ha
          subst this e
          obtain ⟨o, e⟩ := relL_trk r1 a hb
          rw [nx] at e; cases e⟩, fun a m => by
            rcases List.mem_append.mp m with m | m
            · have : a = x := by simpa using m
              subst this; exact xz
            · exact wz.dj a m, fun a z => let ⟨o, e⟩ := wz.tz a z; ⟨o, kn a o e⟩⟩
        have r2 : RelL K cA H2 (ZU Z1 f1) ρ1 σ L1 := relL_mono (fun _ z => z) (fun a o _ e => kn a o e) (relL_zu r1)
        have F2 : Fr H Z L H2 (ZU Z1 f1) (([x] : FP) ++ L1) := Fz.trans ⟨fun a o e _ => kn a o e, fun _ z => z, fun _ z => .inl z, fun a m => by
          rcases List.mem_append.mp m with m | m
          · have : a = x := by simpa using m
            subst this; exact .inr nx
          · exact .inl m⟩
        have hall : RepL K cA H2 (ZU Z1 f1) (.n (.ins C []) true [] :: frzL xs) (.ref x :: vs) [x] := ⟨.ref x, vs, [x], [], rfl, rx, repL_mono _ (fun _ z => z) (fun a o _ e => kn a o e) hf, rfl⟩
        refine ⟨by rw [List.length_cons, repL_len hL, hn], _, ZU Z1 f1, [x], hall, w2.less (List.sublist_append_left _ _), ?_⟩
        have wsw : Wf H2 (ZU Z1 f1) (L1 ++ [x]) := w2.swap
        cases hF : F (.n (.ins C []) true [] :: frzL xs) with
        | st => rw [hF] at p; exact p
        | ex e io =>
          rw [hF] at p
          intro cls d H3 Z3 g3 ri w3 x3 F3
          have F3' : Fr H2 (ZU Z1 f1) [x] H3 Z3 [] := F3.less fun a m => nomatch m
          obtain ⟨b1, b2, b3⟩ := hand w2 r2 F3' (wf0 w3)
          exact p cls d H3 Z3 L1 b1 b2 x3 (F2.trans b3)
        | rt d io =>
          rw [hF] at p
          intro v H3 Z3 fp g3 ri h3 w3 F3
          split at p
          · rename_i d1 e
            cases e
            obtain ⟨e1, e2⟩ := h3
            subst e1 e2
            obtain ⟨v', hv', hr'⟩ := ri
            cases hv'
            refine ⟨rfl, ?_⟩
            obtain ⟨b1, b2, b3⟩ := hand w2 r2 F3 w3
            exact p _ H3 Z3 L1 g3 b1 b2 hr' (F2.trans b3)
          · rename_i e; cases e
          · exact p.elim
      · exact p.elim
    · exact p.elim
theorem de_make {C : Str} (hC : Cls X.K (cA C)) (M : Mk X.K (cA C) f) (Fo : FnOk X.prog X.w X.K X.mg X.base (L2.CX X.prog X.w) k f fd ps (spF X.K cA (n + 1) (some 0) F)) (hr : Room (k + 1) X.A) (hg : Gl X x) (hm : X.mg x = some (.ref (cA C))) (hb : Binds X.K fd ps []) (tk : Takes X W)
    (ha : DA X cA W g (e :: es)) (hdb : (x == ("__debug__" : Str)) = false := by kernel_rfl) (he : starEach (e :: es) X.env = (false, eval e X.env) :: starEach es X.env := by kernel_rfl) (hpl : (backTo pos (starEach es X.env)).any (·.1) = false := by kernel_rfl) :
    DE X cA W (dMake C n F g) (.Call (.Name x p) (e :: es) [] pos) := PE.imp (pe_makeS M Fo hr hg hm hb (passAt tk) ha hdb he hpl) (te_make hC)
end
def dPopAt (i : Nat) (fj : Env → Out D) : Env → Out D := fun ρ => match ρ[i]? with
  | some (some (.n .lst true _)) => (match fj ρ with
    | .ok (.a (.int z)) ρ1 => (match ρ1[i]? with
      | some (some (.n .lst true xs)) => if -1000000 ≤ z ∧ z ≤ 1000000 then (match seqIndex? z xs.length with
        | some j => (match xs[j]? with
          | some d => .ok d (ρ1.set i (some (.lst true (xs.eraseIdx j))))
          | none => .st)
        | none => .st) else .st
      | _ => .st)
    | .ok _ _ => .st
    | .ex e ρ1 => .ex e ρ1
    | .st => .st)
  | _ => .st
section
variable {X : Cx} {cA : Str → Addr} {W : WX} {f : Env → Out D} {e o : Expr} {apos cpos : Pos}
theorem de_popAt {i : Nat} (ho : PE X o (tVar i)) (he : DE X cA W f e)
    (hbase : attributeBase o "pop" X.env (eval o X.env) = eval o X.env := by kernel_rfl)
    (hfew : ((backTo cpos (starEach [e] X.env)).all (fun x => !x.1) && (backToKw cpos (keywordEach [] X.env)).all (fun x => x.1.isSome)
      && decide ([e].length + ([] : List Keyword).length + (if ([] : List Keyword).isEmpty then 0 else 1) < 30)) = true := by kernel_rfl)
    (hline : (apos.endLine == cpos.line) = true := by kernel_rfl) (hs : starEach [e] X.env = (false, eval e X.env) :: starEach [] X.env := by kernel_rfl) : DE X cA W (dPopAt i f) (.Call (.Attribute o "pop" apos) [e] [] cpos) :=
  de_of (pe_bm PySem.F.plainAttrs_list PySem.F.slot_list_pop PySem.F.type_list_pop mt_popAt ho (pa_cons he pa_nil hs) hbase hfew hline hs rfl) fun σ H Q Z L ρ r w p => by
    unfold dPopAt at p
    split at p
    · rename_i zs hz
      obtain ⟨p0, vs0, g0, f0, f2, hv, e0, _, _, _⟩ := relL_own r hz
      refine ⟨_, hv, .inl ⟨rfl, _, SqL.of e0⟩, ?_⟩
      refine post_int (f := f) r w ?_
      cases hf : f ρ with
      | st => rw [hf] at p; exact p
      | ex e ρ1 => rw [hf] at p; exact p
      | ok d1 ρ1 =>
        rw [hf] at p
        cases d1 with
        | n k o xs => exact p.elim
        | a x =>
          cases x with
          | non => exact p.elim
          | bl b => exact p.elim
          | str s => exact p.elim
          | int z =>
            intro H1 Z1 L1 r1 w1 F1
            dsimp only at p
            split at p
            · rename_i xs hx
              split at p
              · rename_i hb
                split at p
                · rename_i j hj
                  split at p
                  · rename_i d hd
                    obtain ⟨q, vs, g, f0', f2', hσ, hp, rx, eL, put⟩ := relL_own r1 hx
                    rw [hv] at hσ
                    cases hσ
                    have len := repL_len rx
                    obtain ⟨v, h0, hfp, h2, hvj, hrd, eg, rer⟩ := repL_erase rx hd
                    show rPopAt (.ref p0) [.int z] H1 Q
                    refine ⟨p0, vs, z, j, v, rfl, rfl, hp, by omega, by omega, by rw [len]; exact hj, hvj, ?_⟩
                    have nd := w1.nd
                    rw [eL, eg] at nd
                    have nd1 := List.nodup_append.mp nd
                    have nd2 := List.nodup_append.mp nd1.1
                    have nd3 := List.nodup_cons.mp nd2.2.1
                    have sub : (h0 ++ h2).Sublist g := by
                      rw [eg, List.append_assoc]
                      exact (List.Sublist.refl h0).append (List.sublist_append_right _ _)
                    have ndg : g.Nodup := by rw [eg]; exact nd3.2
                    have w1' : Wf H1 Z1 (([] : FP) ++ L1) := w1
                    have F1' : Fr H Z L H1 Z1 (([] : FP) ++ L1) := F1
                    obtain ⟨a, b, c⟩ := own_write w1' r1 hp eL hv put rer (fun a m => .inl (sub.subset m)) (ndg.sublist sub) F1'
                    -- the item taken out is in hand
                    have pit : p0 ∉ hfp := fun m => nd3.1 (by simp [m])
                    have kn : ∀ a o, a ≠ p0 → H1 a = some o → upd H1 p0 (.lst (vs.eraseIdx j)) a = some o := fun a o n e => by rw [upd_ne n]; exact e
                    have pz : ¬ Z1 p0 := w1.dj p0 (by rw [eL]; simp)
                    have hrd' : RepD X.K cA (upd H1 p0 (.lst (vs.eraseIdx j))) Z1 d v hfp := repD_mono d (fun _ z => z) (fun a o m e => kn a o (fun z => by
                      subst z
                      exact m.elim pz pit) e) hrd
                    have pm : (hfp ++ (f0' ++ (p0 :: (h0 ++ h2)) ++ f2')).Perm (f0' ++ (p0 :: (h0 ++ hfp ++ h2)) ++ f2') := by
                      have a1 : f0' ++ (p0 :: (h0 ++ hfp ++ h2)) ++ f2' = (f0' ++ (p0 :: h0)) ++ (hfp ++ (h2 ++ f2')) := by simp
                      have a2 : hfp ++ (f0' ++ (p0 :: (h0 ++ h2)) ++ f2') = hfp ++ ((f0' ++ (p0 :: h0)) ++ (h2 ++ f2')) := by simp
                      rw [a1, a2]
                      exact List.perm_append_comm_assoc hfp (f0' ++ (p0 :: h0)) (h2 ++ f2')
                    have wfin : Wf (upd H1 p0 (.lst (vs.eraseIdx j))) Z1 (hfp ++ (f0' ++ (p0 :: (h0 ++ h2)) ++ f2')) := by
                      refine ⟨pm.nodup_iff.mpr nd, fun a m => w1.dj a (by rw [eL, eg]; exact pm.mem_iff.mp m), b.tz⟩
                    exact p v _ Z1 _ hfp a wfin hrd' ⟨c.keep, c.zm, c.zs, fun a m => F1.ls a (by rw [eL, eg]; exact pm.mem_iff.mp m)⟩
                  · exact p.elim
                · exact p.elim
              · exact p.elim
            · exact p.elim
    · exact p.elim
end
end DL
namespace DL
open PySem L2
def tyN : D → Option String
  | .a .non => some "NoneType"
  | .a (.bl _) => some "bool"
  | .a (.int _) => some "int"
  | .a (.str _) => some "str"
  | .n .tup _ _ => some "tuple"
  | .n .lst _ _ => some "list"
  | .n (.dct _) _ _ => some "dict"
  | _ => none
def isiT (t T : String) : Bool := t == T || (t == "bool" && T == "int")
def tyAll : List String := ["NoneType", "bool", "int", "str", "tuple", "list", "dict"]
theorem kit_tab : ∀ t ∈ tyAll, ∀ T ∈ tyAll, kitB t T = some (isiT t T) := by decide +kernel
section
variable {K : PySem.W.Frag} {cA : Str → Addr} {H : Hp} {Z : ZS}
theorem tyN_ok {d : D} {t : String} {v : V} {fp : FP} (e : tyN d = some t) (h : RepD K cA H Z d v fp) : t ∈ tyAll ∧ TyX K H v (.type t) := by
  cases d with
  | a x =>
    obtain ⟨e1, _⟩ := h
    subst e1
    cases x with
    | non => cases e; exact ⟨by decide, .base .non⟩
    | bl b => cases e; exact ⟨by decide, .base (.bl b)⟩
    | int i => cases e; exact ⟨by decide, .base (.int i)⟩
    | str s => cases e; exact ⟨by decide, .base (.str s)⟩
  | n k o xs =>
    cases k with
    | tup =>
      cases e
      obtain ⟨p, vs, rfl, e1, r1, _, _, c⟩ := rep_tup h
      refine ⟨by decide, ?_⟩
      rcases c with ⟨_, o, r, _⟩ | ⟨o, its, n, hk, hc, _⟩
      · exact .fTuple r
      · exact .kTuple hk hc
    | lst =>
      cases e
      obtain ⟨p, vs, g, rfl, e1, _⟩ := rep_lst h
      exact ⟨by decide, .base (.lst e1)⟩
    | scr => cases e
    | dct ks =>
      cases e
      obtain ⟨p, vs, g, rfl, hl, hc, _⟩ := h
      exact ⟨by decide, .base (.dK hc.1)⟩
    | ins C fs => cases e
end
def gIsi (T : String) : D → Option D := fun d => match tyN d with
  | some t => some (.bl (isiT t T))
  | none => none
def gIsi2 (T U : String) : D → Option D := fun d => match tyN d with
  | some t => some (.bl (isiT t T || isiT t U))
  | none => none
theorem vu_isi {K : PySem.W.Frag} {cA : Str → Addr} {T : String} (hT : T ∈ tyAll) : VU K cA (fun v H Q => rIsi K [v, .ty T] H Q) (gIsi T) := by
  refine ⟨@fun d1 d v1 H Z f1 Q h1 w hg q => ?_⟩
  unfold gIsi at hg
  split at hg
  · rename_i t e
    cases hg
    obtain ⟨ht, ty⟩ := tyN_ok e h1
    exact ⟨_, _, _, _, _, rfl, .ty T, ty, kit_ty (kit_tab t ht T hT), q _ H Z [] ⟨rfl, rfl⟩ w Fr.refl⟩
  · cases hg
theorem vu_isi2 {K : PySem.W.Frag} {cA : Str → Addr} {T U : String} (hT : T ∈ tyAll) (hU : U ∈ tyAll) : VU K cA (fun v H Q => (2 : Nat) ≤ sizeLine ∧ ∀ p, H p = none → rIsiT K [v, .ref p] (upd H p (.tup [.ty T, .ty U])) Q) (gIsi2 T U) := by
  refine ⟨@fun d1 d v1 H Z f1 Q h1 w hg q => ⟨by rw [sizeLine_eq]; omega, fun p hp => ?_⟩⟩
  unfold gIsi2 at hg
  split at hg
  · rename_i t e
    cases hg
    have kn := keep_new (o := .tup [.ty T, .ty U]) hp
    have h2 : RepD K cA (upd H p (.tup [.ty T, .ty U])) Z d1 v1 f1 := repD_mono d1 (fun _ z => z) (fun a o _ e => kn a o e) h1
    obtain ⟨ht, ty⟩ := tyN_ok e h2
    refine ⟨v1, p, _, _, [.type T, .type U], _, rfl, upd_same, .cons (.ty T) (.cons (.ty U) .nil), ty, ?_, q _ _ Z [] ⟨rfl, rfl⟩ ((wf_new w hp (fun a m => nomatch m)).less (List.nil_sublist _)) ((fr_new hp).less fun a m => nomatch m)⟩
    refine kitAny_cons (kit_ty (kit_tab t ht T hT)) (fun e1 => ?_) fun e1 => by rw [e1]; rfl
    rw [e1]
    refine kitAny_cons (kit_ty (kit_tab t ht U hU)) (fun e2 => ?_) fun e2 => by rw [e2]; rfl
    rw [e2]
    rfl
  · cases hg
section
variable {X : Cx} {cA : Str → Addr} {W : WX} {fa fb : Env → Out D} {a b : Expr} {pos : Pos}
theorem de_isi {x : Str} {T : String} {p q : Pos} (hg : Gl X "isinstance") (hm : X.mg "isinstance" = none) (hg2 : Gl X x) (hm2 : X.mg x = none) (hv2 : bootBuiltins x = some (.type T)) (hT : T ∈ tyAll) (ha : DP X cA W fa a)
    (hn2 : x ≠ "__name__" := by decide +kernel) (hd2 : (x == ("__debug__" : Str)) = false := by kernel_rfl)
    (hs1 : starEach [a, .Name x q] X.env = (false, eval a X.env) :: starEach [.Name x q] X.env := by kernel_rfl) (hs2 : starEach [.Name x q] X.env = (false, eval (.Name x q) X.env) :: starEach [] X.env := by kernel_rfl) (hpl : (backTo pos (starEach [.Name x q] X.env)).any (·.1) = false := by kernel_rfl) :
    DE X cA W (dU (gIsi T) fa) (.Call (.Name "isinstance" p) [a, .Name x q] [] pos) :=
  PE.imp (pe_callB call_isi hg hm PyProof.Rows.boot_isinstance (pa_cons ha (pa_cons (pe_bltn (v := .ty T) hg2 hm2 hv2 rfl hn2 hd2) pa_nil hs2) hs1) (by decide) (by decide) hs1 hpl) (te_un (vu_isi hT))
theorem de_isi2 {x y : Str} {T U : String} {p q q2 q3 : Pos} {kk : Nat} (hg : Gl X "isinstance") (hm : X.mg "isinstance" = none) (hg2 : Gl X x) (hm2 : X.mg x = none) (hv2 : bootBuiltins x = some (.type T)) (hT : T ∈ tyAll) (hg3 : Gl X y) (hm3 : X.mg y = none) (hv3 : bootBuiltins y = some (.type U)) (hU : U ∈ tyAll) (ha : DP X cA W fa a)
    (hn2 : x ≠ "__name__" := by decide +kernel) (hd2 : (x == ("__debug__" : Str)) = false := by kernel_rfl) (hn3 : y ≠ "__name__" := by decide +kernel) (hd3 : (y == ("__debug__" : Str)) = false := by kernel_rfl)
    (hs1 : starEach [a, .Tuple [.Name x q, .Name y q2] kk q3] X.env = (false, eval a X.env) :: starEach [.Tuple [.Name x q, .Name y q2] kk q3] X.env := by kernel_rfl) (hs2 : starEach [.Tuple [.Name x q, .Name y q2] kk q3] X.env = (false, eval (.Tuple [.Name x q, .Name y q2] kk q3) X.env) :: starEach [] X.env := by kernel_rfl) (hpl : (backTo pos (starEach [.Tuple [.Name x q, .Name y q2] kk q3] X.env)).any (·.1) = false := by kernel_rfl)
    (hs3 : starEach [.Name x q, .Name y q2] X.env = (false, eval (.Name x q) X.env) :: starEach [.Name y q2] X.env := by kernel_rfl) (hs4 : starEach [.Name y q2] X.env = (false, eval (.Name y q2) X.env) :: starEach [] X.env := by kernel_rfl) :
    DE X cA W (dU (gIsi2 T U) fa) (.Call (.Name "isinstance" p) [a, .Tuple [.Name x q, .Name y q2] kk q3] [] pos) :=
  PE.imp (pe_callB call_isiT hg hm PyProof.Rows.boot_isinstance (pa_cons ha (pa_cons (pe_tup (pa_cons (pe_bltn (v := .ty T) hg2 hm2 hv2 rfl hn2 hd2) (pa_cons (pe_bltn (v := .ty U) hg3 hm3 hv3 rfl hn3 hd3) pa_nil hs4) hs3)) pa_nil hs2) hs1) (by decide) (by decide) hs1 hpl) (te_un (vu_isi2 hT hU))
abbrev gBits : D → Option D := gI fun i => (Builtin.Int.intBits i : Nat)
theorem de_bits {apos : Pos} (ha : DE X cA W fa a) (hbase : attributeBase a "bit_length" X.env (eval a X.env) = eval a X.env := by kernel_rfl) (hline : (apos.endLine == pos.line) = true := by kernel_rfl) : DE X cA W (dU gBits fa) (.Call (.Attribute a "bit_length" apos) [] [] pos) :=
  PE.imp (pe_bits (dp_de ha) hbase hline) (te_un (vu_i (f := fun i => (Builtin.Int.intBits i : Nat))))
end
theorem gl_of {X : Cx} {x : Str} (h : X.env.scope.names.lookup x = some .globalImplicit := by kernel_rfl) : Gl X x := h
theorem pvl {X : Cx} (i : Nat) {x : Str} {pos : Pos} (hN : X.N[i]? = some x := by kernel_rfl) (hv : X.env.scope.names.lookup x = some .local := by kernel_rfl) (hd : (x == ("__debug__" : Str)) = false := by kernel_rfl) (hc : (x == ("__classdict__" : Str)) = false := by kernel_rfl) : PE X (.Name x pos) (tVar i) := pe_var hN (.inl hv) hd hc
theorem pvc {X : Cx} (i : Nat) {x : Str} {pos : Pos} (hN : X.N[i]? = some x := by kernel_rfl) (hv : X.env.scope.names.lookup x = some .cell := by kernel_rfl) (hd : (x == ("__debug__" : Str)) = false := by kernel_rfl) (hc : (x == ("__classdict__" : Str)) = false := by kernel_rfl) : PE X (.Name x pos) (tVar i) := pe_var hN (.inr (.inl hv)) hd hc
def dDp (f : Env → Out D) : Env → Out D := fun ρ => match f ρ with
  | .ok d ρ1 => if isF d = true then .ok d ρ1 else .st
  | .ex e ρ1 => .ex e ρ1
  | .st => .st
def dFrz (i : Nat) (f : Env → Fl) : Env → Fl := dSeq f fun ρ => match ρ[i]? with | some (some d) => .nx (ρ.set i (some (frz d))) | _ => .nx ρ
theorem ds_frzN {X : Cx} {cA : Str → Addr} {W : WX} {k : Option Nat} {f : Env → Fl} {st : Stmt} (i : Nat) (h : DS X cA W k f st) (hk : k ≠ some i := by decide) : DS X cA W k (dFrz i f) st := ds_frz i h hk
theorem room_u1 {k : Nat} {A : Around} (r : Room k A) : A.units + 65 < cLine := by have := r.un; omega
structure OkC (P : Program) (w : World) (K : PySem.W.Frag) (mg : Str → Option Value) (base : Heap) (f : Addr) (ps : List Str) (k : Nat) (sp : Sp) : Prop where
  ex : ∃ fd, FnOk P w K mg base (L2.CX P w) k f fd ps sp ∧ Binds K fd ps []
section
variable {P : Program} {w : World} {K : PySem.W.Frag} {cA : Str → Addr} {mg : Str → Option Value} {base : Heap}
theorem fn_okF0 {x qual : Str} {params : Arguments} {stb : List Stmt} {scope : Scope} {f : Addr} {fd : FuncData} {N ps : List Str} {k : Nat} {kio : Option Nat} {body : Env → Fl} (F : FunD K x qual params stb scope [] [] f fd) (S : FnScope N ps scope)
    (hb : ∀ (cdv : Value) (A : Around) (outer : List PySem.Env) (s : Shared) (H : Hp) (E : XK), Room k (A.deeper (PyProof.Rows.envOfC qual scope s.heap.objs.size f cdv)) →
      DSs (cxOf (L2.CX P w) P w K mg base N qual scope f cdv A outer s H E) cA (fun cls d _ H' => E cls d H') kio body stb) :
    FnOk P w K mg base (L2.CX P w) (k + 1) f fd ps (spF K cA ps.length kio (fnD N.length kio body)) := by
  refine F.ok S (fun vs H Q E h => h.1) fun cdv A outer s H vs Q E hr h => ?_
  obtain ⟨hl, ds, Z, L, r, wf, p⟩ := h
  refine ⟨_, hb cdv A outer s H E hr, ?_⟩
  have e : N.length - ds.length = N.length - vs.length := by rw [repL_len r]
  refine ⟨Z, L, ds.map some ++ List.replicate (N.length - vs.length) none, relL_start r, wf, ?_⟩
  unfold fnD at p
  rw [e] at p
  cases hbo : body (ds.map some ++ List.replicate (N.length - vs.length) none) with
  | st => rw [hbo] at p; exact p
  | bk ρ => rw [hbo] at p; exact p.elim
  | ct ρ => rw [hbo] at p; exact p.elim
  | nx ρ =>
    rw [hbo] at p
    intro σ' H' Z' L' r' w' F' pn
    obtain ⟨g, hg, ri⟩ := io_end (σ0 := σ') r' pn
    exact p _ H' Z' [] g ri ⟨rfl, rfl⟩ (w'.less hg) (F'.less fun x m => hg.subset m)
  | rt d ρ =>
    rw [hbo] at p
    intro v σ' H' Z' L' fp r' w' h' F' pn
    obtain ⟨g, hg, ri⟩ := io_end (σ0 := σ') r' pn
    exact p v H' Z' fp g ri h' (wf_sub2 w' hg) (fr_sub2 F' hg)
  | ex e ρ =>
    rw [hbo] at p
    intro cls d σ' H' Z' L' r' w' x' F' pn
    obtain ⟨g, hg, ri⟩ := io_end (σ0 := σ') r' pn
    exact p cls d H' Z' g ri (w'.less hg) x' (F'.less fun x m => hg.subset m)
theorem fn_okD0 {x qual : Str} {params : Arguments} {stb : List Stmt} {scope : Scope} {f : Addr} {N ps : List Str} {k : Nat} {kio : Option Nat} {body : Env → Fl} (F : ∃ fd, FunD K x qual params stb scope [] [] f fd) (S : FnScope N ps scope)
    (hbi : ∀ (kV doc pm : Value) (an : Option Addr) (cdv ct : Value) (us : List Value), us.length = ps.length → bindArgs (PySem.W.fnOf x qual params stb scope .none kV doc pm an cdv ct) ⟨us, []⟩ = pure (ps.zip us))
    (hb : ∀ (cdv : Value) (A : Around) (outer : List PySem.Env) (s : Shared) (H : Hp) (E : XK), Room k (A.deeper (PyProof.Rows.envOfC qual scope s.heap.objs.size f cdv)) →
      DSs (cxOf (L2.CX P w) P w K mg base N qual scope f cdv A outer s H E) cA (fun cls d _ H' => E cls d H') kio body stb) :
    OkC P w K mg base f ps (k + 1) (spF K cA ps.length kio (fnD N.length kio body)) :=
  let ⟨fd, F⟩ := F
  ⟨fd, fn_okF0 F S hb, F.bindsN hbi⟩
theorem fn_okF {x qual : Str} {params : Arguments} {stb : List Stmt} {scope : Scope} {f : Addr} {fd : FuncData} {N ps : List Str} {k n m : Nat} {kio : Option Nat} {body : Env → Fl} (F : FunD K x qual params stb scope [] [] f fd) (S : FnScope N ps scope)
    (hb : ∀ (cdv : Value) (A : Around) (outer : List PySem.Env) (s : Shared) (H : Hp) (E : XK), Room k (A.deeper (PyProof.Rows.envOfC qual scope s.heap.objs.size f cdv)) →
      DSs (cxOf (L2.CX P w) P w K mg base N qual scope f cdv A outer s H E) cA (fun cls d _ H' => E cls d H') kio body stb) (hn : ps.length = n := by kernel_rfl) (hm : N.length = m := by kernel_rfl) :
    FnOk P w K mg base (L2.CX P w) (k + 1) f fd ps (spF K cA n kio (fnD m kio body)) := by
  subst hn hm
  exact fn_okF0 F S hb
theorem fn_okD {x qual : Str} {params : Arguments} {stb : List Stmt} {scope : Scope} {f : Addr} {N ps : List Str} {k n m : Nat} {kio : Option Nat} {body : Env → Fl} (F : ∃ fd, FunD K x qual params stb scope [] [] f fd) (S : FnScope N ps scope)
    (hbi : ∀ (kV doc pm : Value) (an : Option Addr) (cdv ct : Value) (us : List Value), us.length = ps.length → bindArgs (PySem.W.fnOf x qual params stb scope .none kV doc pm an cdv ct) ⟨us, []⟩ = pure (ps.zip us))
    (hb : ∀ (cdv : Value) (A : Around) (outer : List PySem.Env) (s : Shared) (H : Hp) (E : XK), Room k (A.deeper (PyProof.Rows.envOfC qual scope s.heap.objs.size f cdv)) →
      DSs (cxOf (L2.CX P w) P w K mg base N qual scope f cdv A outer s H E) cA (fun cls d _ H' => E cls d H') kio body stb) (hn : ps.length = n := by kernel_rfl) (hm : N.length = m := by kernel_rfl) :
    OkC P w K mg base f ps (k + 1) (spF K cA n kio (fnD m kio body)) := by
  subst hn hm
  exact fn_okD0 F S hbi hb
theorem takes_cx {N : List Str} {qual : Str} {scope : Scope} {f : Addr} {cdv : Value} {A : Around} {outer : List PySem.Env} {s : Shared} {H : Hp} {E : XK} : Takes (cxOf (L2.CX P w) P w K mg base N qual scope f cdv A outer s H E) (fun cls d _ H' => E cls d H') := takes_of rfl rfl rfl rfl
theorem passes_cx {N : List Str} {qual : Str} {scope : Scope} {f : Addr} {cdv : Value} {A : Around} {outer : List PySem.Env} {s : Shared} {H : Hp} {E : XK} :
    PassesOwn (model (cxOf (L2.CX P w) P w K mg base N qual scope f cdv A outer s H E).prog (cxOf (L2.CX P w) P w K mg base N qual scope f cdv A outer s H E).w) (cxOf (L2.CX P w) P w K mg base N qual scope f cdv A outer s H E).A (cxOf (L2.CX P w) P w K mg base N qual scope f cdv A outer s H E).env (cxOf (L2.CX P w) P w K mg base N qual scope f cdv A outer s H E).xe := passes_of rfl
end
section
variable {X : Cx} {cA : Str → Addr} {W : WX} {g : Env → Out (List Ag)} {fa : Env → Out D} {o e : Expr} {es : List Expr} {x m : Str} {f : Addr} {ps : List Str} {k n : Nat} {kio : Option Nat} {F : List D → FR} {p pos apos : Pos}
theorem de_callG (Fo : OkC X.prog X.w X.K X.mg X.base f ps k (spF X.K cA n kio F)) (hr : Room k X.A) (hg : Gl X x) (hm : X.mg x = some (.ref f) ∧ PySem.W.keepIn X.K (.ref f) = true) (tk : Takes X W) (ha : DA X cA W g (e :: es)) (hdb : (x == ("__debug__" : Str)) = false := by kernel_rfl)
    (he : starEach (e :: es) X.env = (false, eval e X.env) :: starEach es X.env := by kernel_rfl) (hpl : (backTo pos (starEach es X.env)).any (·.1) = false := by kernel_rfl) : DE X cA W (dCall n F g) (.Call (.Name x p) (e :: es) [] pos) :=
  let ⟨fd, Fo, hb⟩ := Fo.ex
  de_call Fo hr hg hm.1 hm.2 hb tk ha hdb he hpl
theorem de_callLG (Fo : OkC X.prog X.w X.K X.mg X.base f ps k (spF X.K cA n kio F)) (hr : Room k X.A) (hg : Gl X x) (hm : X.mg x = some (.ref f) ∧ PySem.W.keepIn X.K (.ref f) = true) (tk : Takes X W) (ha : DA X cA W g (e :: es)) (hdb : (x == ("__debug__" : Str)) = false := by kernel_rfl)
    (he : starEach (e :: es) X.env = (false, eval e X.env) :: starEach es X.env := by kernel_rfl) (hpl : (backTo pos (starEach es X.env)).any (·.1) = false := by kernel_rfl) : DE X cA W (dCallL n kio F g) (.Call (.Name x p) (e :: es) [] pos) :=
  let ⟨fd, Fo, hb⟩ := Fo.ex
  de_callL Fo hr hg hm.1 hm.2 hb tk ha hdb he hpl
end
theorem repL_ints {K : PySem.W.Frag} {cA : Str → Addr} {H : Hp} {Z : ZS} : ∀ ns : List Int, RepL K cA H Z (ns.map D.int) (ns.map V.int) []
  | [] => ⟨rfl, rfl⟩
  | n :: ns => ⟨.int n, ns.map V.int, [], [], rfl, ⟨rfl, rfl⟩, repL_ints ns, rfl⟩
theorem law_sp {K : PySem.W.Frag} {cA : Str → Addr} {F : List D → FR} {H : Hp} {a : Addr} {ns : List Int} (hS : SqL K H a (ns.map V.int)) (law : F [.scr (ns.map D.int)] = .rt (.bl true) none) : spF K cA 1 none F [.ref a] H (fun v _ => v = .bl true) fun _ _ _ => False := by
  have fin : ∀ Z : ZS, Wf H Z [] → Cont K cA H Z a (ns.map V.int) .scr false → spF K cA 1 none F [.ref a] H (fun v _ => v = .bl true) fun _ _ _ => False := by
    intro Z w c
    refine ⟨rfl, [.scr (ns.map D.int)], Z, [], ⟨.ref a, [], [], [], rfl, ⟨a, ns.map V.int, [], rfl, repL_ints ns, c, rfl, fun _ => rfl⟩, ⟨rfl, rfl⟩, rfl⟩, w, ?_⟩
    rw [law]
    intro v H' Z' fp g hi hd _ _
    exact hd.1
  rcases hS with r | r
  · refine fin (fun b => b = a) ⟨List.nodup_nil, fun a m => (nomatch m), fun b e => ?_⟩ ⟨rfl, .inl ⟨rfl, r⟩⟩
    subst e
    rcases r with r | ⟨o, r⟩
    · exact ⟨_, r⟩
    · exact ⟨_, r⟩
  · exact fin (fun _ => False) ⟨List.nodup_nil, fun a m => (nomatch m), fun b e => e.elim⟩ ⟨rfl, .inr r⟩
theorem law_end {l : PySem.W.OpenLaw} {k : Nat} {q : Program} {loose : List Str} {XP : (Str → Option Value) → Heap → Prop} {YP : World → Heap → Prop} {d : DefRec} {x : Str} {cA : PySem.W.Frag → Str → Addr} {F : List D → FR}
    (hn : l.most = some 63) (hdf : d.params.defaults = []) (hr : Room k callerA)
    (HF : ∀ (w : World) (mg : Str → Option Value) (fa : Addr) (h : Heap), YP w h → h.Ns mainGlobals mg → mg d.name = some (.ref fa) →
      ∃ (K : PySem.W.Frag) (fd : FuncData), K.In h ∧ (∀ (s : Shared) (u : Value), BindsTo s fd ⟨[u], []⟩ [(x, u)]) ∧
        ∀ base : Heap, K.In base → base.Ns mainGlobals mg → FnOk l.prog w K mg base (L2.CX l.prog w) k fa fd [x] (spF K (cA K) 1 none F))
    (law : ∀ ns : List Int, ns.length ≤ 63 → (∀ z ∈ ns, Builtin.Int.intBits z ≤ 1048576) → F [.scr (ns.map D.int)] = .rt (.bl true) none) :
    PySem.W.WalkO q loose XP YP l.row.toRowW d [] (fun f vs => PySem.call f vs) := by
  refine Att.attach_callB hn hdf fun w s₀ s₁ mg mb fa o pm cd doc a vs ns G Y ho hd hcd hmg hobj hints hlen hbits hg => ?_
  obtain ⟨K, fd, KX, hb, hF⟩ := HF w mg fa _ Y G.T.g hmg
  refine law_call KX G.T.g G.T.b G.T.builtins G.T.nolimit hg hobj hints (Nat.le_trans hlen (by rw [sizeLine_eq]; omega)) hr hF hb (fun H hO hS => law_sp hS (law ns hlen hbits)) fun H e s' z => ?_
  obtain ⟨_, _, _, _, _, _, _, _, _, _, _, _, z⟩ := z
  exact z.elim
end DL
namespace DL
open PySem L2
section
variable {X : Cx} {cA : Str → Addr} {W : WX} {g : Env → Out (List Ag)} {fa fb : Env → Out D} {a b o e : Expr} {es : List Expr} {x m : Str} {f : Addr} {ps : List Str} {k n : Nat} {kio : Option Nat} {F : List D → FR} {p pos apos : Pos}
theorem de_methG {C : Str} {pl : Sem Bool} (ho : DE X cA W fa o) (c : Cls X.K (cA C)) (hm : Meth X.K (cA C) m f) (Fo : OkC X.prog X.w X.K X.mg X.base f ps k (spF X.K cA (n + 1) kio F)) (hr : Room k X.A) (tk : Takes X W) (ha : DA X cA W g (e :: es))
    (hst : starEach (e :: es) X.env = (false, eval e X.env) :: starEach es X.env := by kernel_rfl) (hpl : (backTo pos (starEach es X.env)).any (·.1) = false := by kernel_rfl)
    (ht : eval (.Call (.Attribute o m apos) (e :: es) [] pos) X.env = (do
      let ov ← eval o X.env
      standAt apos.atName
      let (f, first) ← holding [ov] (getMethod ov m pl)
      callWith pos f first (backTo pos (starEach (e :: es) X.env)) (backToKw pos (keywordEach [] X.env))) := by rfl) :
    DE X cA W (dMeth C m n F fa g) (.Call (.Attribute o m apos) (e :: es) [] pos) :=
  let ⟨fd, Fo, hb⟩ := Fo.ex
  de_meth ho c hm Fo hr hb tk ha hst hpl ht
theorem de_meth0G {C : Str} {pl : Sem Bool} (ho : DE X cA W fa o) (c : Cls X.K (cA C)) (hm : Meth X.K (cA C) m f) (Fo : OkC X.prog X.w X.K X.mg X.base f ps k (spF X.K cA (0 + 1) kio F)) (hr : Room k X.A) (tk : Takes X W)
    (ht : eval (.Call (.Attribute o m apos) [] [] pos) X.env = (do
      let ov ← eval o X.env
      standAt apos.atName
      let (f, first) ← holding [ov] (getMethod ov m pl)
      callWith pos f first (backTo pos (starEach [] X.env)) (backToKw pos (keywordEach [] X.env))) := by rfl) :
    DE X cA W (dMeth C m 0 F fa dANil) (.Call (.Attribute o m apos) [] [] pos) :=
  let ⟨fd, Fo, hb⟩ := Fo.ex
  de_meth0 ho c hm Fo hr hb tk ht
theorem de_makeG {C : Str} (hC : Cls X.K (cA C)) (M : Mk X.K (cA C) f) (Fo : OkC X.prog X.w X.K X.mg X.base f ps k (spF X.K cA (n + 1) (some 0) F)) (hr : Room (k + 1) X.A) (hg : Gl X x) (hm : X.mg x = some (.ref (cA C))) (tk : Takes X W)
    (ha : DA X cA W g (e :: es)) (hdb : (x == ("__debug__" : Str)) = false := by kernel_rfl) (he : starEach (e :: es) X.env = (false, eval e X.env) :: starEach es X.env := by kernel_rfl) (hpl : (backTo pos (starEach es X.env)).any (·.1) = false := by kernel_rfl) :
    DE X cA W (dMake C n F g) (.Call (.Name x p) (e :: es) [] pos) :=
  let ⟨fd, Fo, hb⟩ := Fo.ex
  de_make hC M Fo hr hg hm hb tk ha hdb he hpl
end
def gLRng : D → Option D
  | .a (.int n) => if -4611686018427387904 ≤ n ∧ n ≤ 16777216 then some (.lst true (intL 0 n.toNat)) else none
  | _ => none
def gTRng : D → Option D
  | .a (.int n) => if -4611686018427387904 ≤ n ∧ n ≤ 16777216 then some (.tup (intL 0 n.toNat)) else none
  | _ => none
theorem repL_rgV {K : PySem.W.Frag} {cA : Str → Addr} {H : Hp} {Z : ZS} (n : Int) : RepL K cA H Z (intL 0 n.toNat) (rgV 0 n) [] := by
  have e1 : intL 0 n.toNat = ((List.range n.toNat).map fun (i : Nat) => (0 : Int) + (i : Int)).map D.int := by unfold intL; rw [List.map_map]; rfl
  have e2 : rgV 0 n = ((List.range n.toNat).map fun (i : Nat) => (0 : Int) + (i : Int)).map V.int := by unfold rgV; rw [List.map_map, Int.sub_zero]; rfl
  rw [e1, e2]
  exact repL_ints _
theorem vu_lrng {K : PySem.W.Frag} {cA : Str → Addr} : VU K cA (fun v H Q => ∃ n, v = .int n ∧ RgOk 0 n ∧ ∀ q, H q = none → Q (.ref q) (upd H q (.lst (rgV 0 n)))) gLRng := by
  refine ⟨@fun d1 d v1 H Z f1 Q h1 w hg q => ?_⟩
  unfold gLRng at hg
  split at hg
  · rename_i n
    split at hg
    · rename_i hc
      cases hg
      obtain ⟨e, _⟩ := h1
      subst e
      refine ⟨n, rfl, ⟨by omega, by omega, by omega, by omega, by omega⟩, fun p hp => ?_⟩
      obtain ⟨a, b, c⟩ := new_lst w (repL_rgV (K := K) (cA := cA) (H := H) (Z := Z) n) hp
      exact q _ _ _ _ a b c
    · cases hg
  · cases hg
section
variable {X : Cx} {cA : Str → Addr} {W : WX} {fa fb : Env → Out D} {a b : Expr} {pos p p2 pos2 : Pos}
theorem de_listRng (hc : X.calm = true) (hg : Gl X "list") (hm : X.mg "list" = none) (hg2 : Gl X "range") (hm2 : X.mg "range" = none) (ha : DE X cA W fa a) (na : starEach [a] X.env = (false, eval a X.env) :: starEach [] X.env := by kernel_rfl)
    (na2 : starEach [.Call (.Name "range" p2) [a] [] pos2] X.env = (false, eval (.Call (.Name "range" p2) [a] [] pos2) X.env) :: starEach [] X.env := by kernel_rfl) :
    DE X cA W (dU gLRng fa) (.Call (.Name "list" p) [.Call (.Name "range" p2) [a] [] pos2] [] pos) :=
  PE.imp (pe_listRg hc hg hm (prg_1 hg2 hm2 (dp_de ha) na) na2) (te_un vu_lrng)
end
def blsOf : List D → Option (List Bool)
  | [] => some []
  | .a (.bl b) :: xs => (blsOf xs).map (b :: ·)
  | _ :: _ => none
def intsOf : List D → Option (List Int)
  | [] => some []
  | .a (.int i) :: xs => (intsOf xs).map (i :: ·)
  | _ :: _ => none
section
variable {K : PySem.W.Frag} {cA : Str → Addr} {H : Hp} {Z : ZS}
theorem blsOf_rep : ∀ {xs : List D} {bs : List Bool} {vs : List V} {g : FP}, blsOf xs = some bs → RepL K cA H Z xs vs g → vs = bs.map V.bl
  | [], bs, vs, g, e, h => by
    cases e
    exact h.1
  | x :: xs, bs, vs, g, e, h => by
    obtain ⟨v, vs', f1, f2, ev, h1, h2, _⟩ := h
    subst ev
    cases x with
    | n _ _ _ => cases e
    | a y =>
      cases y with
      | bl b =>
        unfold blsOf at e
        cases e2 : blsOf xs with
        | none => rw [e2] at e; cases e
        | some bs' =>
          rw [e2] at e
          cases e
          obtain ⟨e3, _⟩ := h1
          subst e3
          rw [blsOf_rep e2 h2]
          rfl
      | non => cases e
      | int i => cases e
      | str s => cases e
theorem intsOf_rep : ∀ {xs : List D} {bs : List Int} {vs : List V} {g : FP}, intsOf xs = some bs → RepL K cA H Z xs vs g → vs = bs.map V.int
  | [], bs, vs, g, e, h => by
    cases e
    exact h.1
  | x :: xs, bs, vs, g, e, h => by
    obtain ⟨v, vs', f1, f2, ev, h1, h2, _⟩ := h
    subst ev
    cases x with
    | n _ _ _ => cases e
    | a y =>
      cases y with
      | int b =>
        unfold intsOf at e
        cases e2 : intsOf xs with
        | none => rw [e2] at e; cases e
        | some bs' =>
          rw [e2] at e
          cases e
          obtain ⟨e3, _⟩ := h1
          subst e3
          rw [intsOf_rep e2 h2]
          rfl
      | non => cases e
      | bl i => cases e
      | str s => cases e
end
def gAll : D → Option D
  | .n .lst _ xs => (blsOf xs).map fun bs => .bl (bs.all id)
  | _ => none
def gSum : D → Option D
  | .n .lst _ xs => (intsOf xs).map fun ns => .int ns.sum
  | _ => none
def gMax1 : D → Option D
  | .n .lst _ xs => (match intsOf xs with
    | some ns => ns.max?.map D.int
    | none => none)
  | _ => none
def insI (a : Int) : List Int → List Int
  | [] => [a]
  | b :: bs => if a ≤ b then a :: b :: bs else b :: insI a bs
def sortI : List Int → List Int
  | [] => []
  | a :: as => insI a (sortI as)
theorem insI_perm (a : Int) : ∀ bs : List Int, (insI a bs).Perm (a :: bs)
  | [] => List.Perm.refl _
  | b :: bs => by
    unfold insI
    split
    · exact List.Perm.refl _
    · exact ((insI_perm a bs).cons b).trans (List.Perm.swap a b bs)
theorem sortI_perm : ∀ as : List Int, (sortI as).Perm as
  | [] => List.Perm.refl _
  | a :: as => (insI_perm a (sortI as)).trans ((sortI_perm as).cons a)
theorem insI_sorted (a : Int) : ∀ bs : List Int, bs.Pairwise (· ≤ ·) → (insI a bs).Pairwise (· ≤ ·)
  | [], _ => List.pairwise_singleton _ _
  | b :: bs, h => by
    unfold insI
    have hb := List.pairwise_cons.mp h
    split
    · rename_i hab
      exact List.pairwise_cons.mpr ⟨fun c hc => by
        rcases List.mem_cons.mp hc with e | e
        · omega
        · have := hb.1 c e; omega, h⟩
    · rename_i hab
      refine List.pairwise_cons.mpr ⟨fun c hc => ?_, insI_sorted a bs hb.2⟩
      rcases List.mem_cons.mp ((insI_perm a bs).mem_iff.mp hc) with e | e
      · omega
      · exact hb.1 c e
theorem sortI_sorted : ∀ as : List Int, (sortI as).Pairwise (· ≤ ·)
  | [] => List.Pairwise.nil
  | a :: as => insI_sorted a _ (sortI_sorted as)
theorem sorted_uniq : ∀ {as bs : List Int}, as.Pairwise (· ≤ ·) → bs.Pairwise (· ≤ ·) → as.Perm bs → as = bs
  | [], bs, _, _, p => (List.nil_perm.mp p).symm ▸ rfl
  | a :: as, [], _, _, p => by
    have := p.length_eq
    simp at this
  | a :: as, b :: bs, ha, hb, p => by
    have ha' := List.pairwise_cons.mp ha
    have hb' := List.pairwise_cons.mp hb
    have m1 : a ∈ b :: bs := p.mem_iff.mp (by simp)
    have m2 : b ∈ a :: as := p.mem_iff.mpr (by simp)
    have h1 : b ≤ a := by
      rcases List.mem_cons.mp m1 with e | e
      · omega
      · exact hb'.1 a e
    have h2 : a ≤ b := by
      rcases List.mem_cons.mp m2 with e | e
      · omega
      · exact ha'.1 b e
    have e : a = b := by omega
    subst e
    rw [sorted_uniq ha'.2 hb'.2 ((List.perm_cons a).mp p)]
section
variable {K : PySem.W.Frag} {cA : Str → Addr}
theorem vc_all : VC1 K cA (rAll K) gAll := by
  refine ⟨@fun d1 d v1 H Z f1 Q h1 w hg q => ?_⟩
  unfold gAll at hg
  split at hg
  · rename_i o xs
    obtain ⟨p, vs, g, rfl, e1, r1, _⟩ := rep_lst h1
    cases e : blsOf xs with
    | none => rw [e] at hg; cases hg
    | some bs =>
      rw [e] at hg
      cases hg
      have ev := blsOf_rep e r1
      subst ev
      exact ⟨p, bs, rfl, SqL.of e1, q _ H Z [] ⟨rfl, rfl⟩ w Fr.refl⟩
  · cases hg
theorem vc_sum : VC1 K cA (rSum K) gSum := by
  refine ⟨@fun d1 d v1 H Z f1 Q h1 w hg q => ?_⟩
  unfold gSum at hg
  split at hg
  · rename_i o xs
    obtain ⟨p, vs, g, rfl, e1, r1, _⟩ := rep_lst h1
    cases e : intsOf xs with
    | none => rw [e] at hg; cases hg
    | some bs =>
      rw [e] at hg
      cases hg
      have ev := intsOf_rep e r1
      subst ev
      exact ⟨p, bs, rfl, SqL.of e1, q _ H Z [] ⟨rfl, rfl⟩ w Fr.refl⟩
  · cases hg
end
def gMin2 : D → D → Option D := gII (fun _ _ => true) fun i j => if j < i then j else i
theorem vop_call2 {K : PySem.W.Frag} {cA : Str → Addr} {f : Int → Int → Int} : VOp2 K cA (fun x y H Q => ∃ i j, [x, y] = [V.int i, V.int j] ∧ Q (V.int (f i j)) H) (gII (fun _ _ => true) f) := vop_at fun d1 d2 d hg => by
  unfold gII at hg
  split at hg
  · rename_i i j
    split at hg
    · cases hg
      exact ⟨_, _, _, rfl, rfl, rfl, fun H Q q => ⟨i, j, rfl, q⟩⟩
    · cases hg
  · cases hg
theorem boot_min : bootBuiltins "min" = some (.builtin "min") := by decide +kernel
theorem boot_sum : bootBuiltins "sum" = some (.builtin "sum") := by decide +kernel
theorem boot_all : bootBuiltins "all" = some (.builtin "all") := by decide +kernel
theorem boot_sorted : bootBuiltins "sorted" = some (.builtin "sorted") := by decide +kernel
section
variable {X : Cx} {cA : Str → Addr} {W : WX} {fa fb : Env → Out D} {a b : Expr} {p pos : Pos}
theorem de_all (hc : X.calm = true) (hg : Gl X "all") (hm : X.mg "all" = none) (ha : DP X cA W fa a) (hs : starEach [a] X.env = (false, eval a X.env) :: starEach [] X.env := by kernel_rfl) : DE X cA W (dU gAll fa) (.Call (.Name "all" p) [a] [] pos) :=
  de_callB (cr_all hc) vc_all hg hm boot_all ha (by decide) (by decide) hs hs
theorem de_sum (hc : X.calm = true) (hg : Gl X "sum") (hm : X.mg "sum" = none) (ha : DP X cA W fa a) (hs : starEach [a] X.env = (false, eval a X.env) :: starEach [] X.env := by kernel_rfl) : DE X cA W (dU gSum fa) (.Call (.Name "sum" p) [a] [] pos) :=
  de_callB (cr_sum hc) vc_sum hg hm boot_sum ha (by decide) (by decide) hs hs
theorem de_min2 (hc : X.calm = true) (hg : Gl X "min") (hm : X.mg "min" = none) (ha : DE X cA W fa a) (hb : DE X cA W fb b) (hs1 : starEach [a, b] X.env = (false, eval a X.env) :: starEach [b] X.env := by kernel_rfl) (hs2 : starEach [b] X.env = (false, eval b X.env) :: starEach [] X.env := by kernel_rfl)
    (hpl : (backTo pos (starEach [b] X.env)).any (·.1) = false := by kernel_rfl) : DE X cA W (dOp2 gMin2 fa fb) (.Call (.Name "min" p) [a, b] [] pos) :=
  PE.imp (pe_callB (call_min2 hc) hg hm boot_min (pa_cons ha (pa_cons hb pa_nil hs2) hs1) (by decide) (by decide) hs1 hpl) (te_op2 vop_call2)
end
end DL
namespace DL
open PySem L2
section
variable {K : PySem.W.Frag} {cA : Str → Addr}
end
section
variable {X : Cx} {cA : Str → Addr} {W : WX} {src src1 : Env → Out (List D)} {ts ts1 : List Nat} {g g1 : D → Env → Option Env} {t t1 : Env → Out Bool} {f : Env → Out D} {iter iter1 tg tgB elt : Expr} {ifs ifs1 : List Expr} {scope : Scope} {own : List (Str × Nat)} {vs1 : List Nat} {pos : Pos}
end
end DL
namespace DL
open PySem L2 PyProof.Rows
section
variable {X : Cx} {cA : Str → Addr} {C : Str} {f : Addr} {fd : FuncData} {ps : List Str} {k : Nat} {kio : Option Nat} {F : List D → FR}
theorem run_own {A : Around} {pins : List (Addr × Obj)} {σ : L2.St} {H : Hp} {s : Shared} {a b : Addr} {Q : VK} (Fo : FnOk X.prog X.w X.K X.mg X.base (L2.CX X.prog X.w) k f fd ps (spF X.K cA 2 kio F)) (hr : Room k A) (hfr : A.frames = X.A.frames) (hb : Binds X.K fd ps []) (I : Inv X pins σ H s)
    (hsp : spF X.K cA 2 kio F [.ref a, .ref b] H (fun v H' => ∃ t, v = .bl t ∧ Q v H') E0) :
    wpAny (model X.prog X.w) A (call (.ref f) [.ref a, .ref b]) (fun v s' => ∃ t H', v = .bool t ∧ Inv X pins σ H' s' ∧ Q (.bl t) H') X.xe s := by
  have e0 : Env0 X.prog X.w X.K X.mg X.base A X.stack s H := by
    have e := I.env0
    exact ⟨by rw [hfr]; exact e.frames, e.mod, e.bs, e.bsz, e.funs, e.frf, e.hok, e.bare⟩
  have hl := Fo.len _ _ _ _ hsp
  have r2 : Vals [V.ref a, V.ref b] [Value.ref a, Value.ref b] := .cons rfl (.cons rfl .nil)
  refine wpAny_call (codeAny_mono (Fo.run A X.stack s H ⟨[.ref a, .ref b], []⟩ [.ref a, .ref b] [.ref a, .ref b] _ E0 hr e0 (by
    have := hb s [.ref a, .ref b] I.kIn (by simpa using hl)
    simpa using this) r2 hsp) fun r s' hq => ?_)
  cases r with
  | error e => exact passL pins σ H s e s' I hq
  | ok fl =>
    cases fl with
    | ret w =>
      obtain ⟨z, H', I', rz, t, ez, q⟩ := I.after hq
      subst ez
      cases rz
      exact ⟨t, H', rfl, I', q⟩
    | next => exact False.elim hq
    | brk => exact False.elim hq
    | cont => exact False.elim hq
def rOwn (K : PySem.W.Frag) (cA : Str → Addr) (C : Str) (kio : Option Nat) (F : List D → FR) (neg : Bool) : R2 := fun x y H Q => ∃ a b dx dy fs gs, x = .ref a ∧ y = .ref b ∧ H a = some (.ins (cA C) dx fs) ∧ H b = some (.ins (cA C) dy gs) ∧ spF K cA 2 kio F [x, y] H (fun v H' => ∃ t, v = .bl t ∧ Q (.bl (if neg = true then !t else t)) H') E0
end
end DL
namespace HN2
open PySem PySem.Spec PyProof.Rows PySem.SeqAt
section
variable {prog : Program} {w : World} {A : Around} {E : Value → Shared → Prop} {s : Shared} {K : PySem.W.Frag} {x y C f : Addr} {ox : Obj} {od : Option Obj}
theorem entry_ne (X : K.In s.heap) (I : PySem.W.InstAt s.heap x ox C od) (hs : PySem.W.findIn K (.ref C) "__eq__" = some (some (.ref f))) (hf : PySem.W.isFn K (.ref f) = true) (hu : A.units < cLine) {Q : Fin → Shared → Prop}
    (hcall : wpAny (model prog w) A (call (.ref f) [.ref x, .ref y]) (fun v s' => ∃ b, v = .bool b ∧ Q (.done (.ret (.bool (!b)))) s') E s) : wpAny (model prog w) A (Builtin.«object.__ne__» ⟨[.ref x, .ref y], []⟩) Q E s := by
  obtain ⟨h, g, d, t, os⟩ := s
  unfold Builtin.«object.__ne__»
  repeat (first
    | with_reducible refine wpAny_cRoomFor hu ?_
    | (refine wpAny_bind (m := callSpecialIfBound? (.ref x) (Str.ofString "__eq__") [.ref y])
        (PySem.W.ifBound_K X I hs hf (wpAny_mono hcall (fun v s' hv => by
          obtain ⟨b, rfl, hq⟩ := hv
          repeat (first | exact hq | exact wpAny_pure hq | exact wpAny_truthy_bool hq | (refine wpAny_bind (m := truthy (.bool _)) (wpAny_truthy_bool ?_)) | wp_step)) fun _ _ e => e)))
    | wp_step)
theorem call_ne (X : K.In s.heap) (I : PySem.W.InstAt s.heap x ox C od) (hm : PySem.W.mroIn K C (.type "object") = some true) (hs : PySem.W.findIn K (.ref C) "__eq__" = some (some (.ref f))) (hf : PySem.W.isFn K (.ref f) = true) (hu : A.in1.units < cLine) {Q : Value → Shared → Prop}
    (hcall : wpAny (model prog w) A.in1 (call (.ref f) [.ref x, .ref y]) (fun v s' => ∃ b, v = .bool b ∧ Q (.bool (!b)) s') E s) : wpAny (model prog w) A (call (.builtin "object.__ne__") [.ref x, .ref y]) Q E s :=
  wpAny_call (codeAny_call_builtin F.cmp_object.ne.plain F.cmpEntry_ne (PySem.W.check_slot F.cmpKind_ne F.cmpSplit_ne (I.type.andThen (PySem.W.looks_mroIn X hm)) (F.cmpArgs_ne _ _) (entry_ne X I hs hf hu hcall)))
theorem ifBound_objNe {M : Model} {args : List Value} {Q : Option Value → Shared → Prop} (X : K.In s.heap) (I : PySem.W.InstAt s.heap x ox C od) (hs : PySem.W.findIn K (.ref C) "__ne__" = some (some (.builtin "object.__ne__")))
    (h : wpAny M A (call (.builtin "object.__ne__") (.ref x :: args)) (fun v => Q (some v)) E s) : wpAny M A (callSpecialIfBound? (.ref x) "__ne__" args) Q E s := by
  simp only [callSpecialIfBound?, bindSpecialIfBound?]
  refine wpAny_holding (wpAny_bind (wpAny_bind (wpAny_bind (I.type.here ((PySem.W.looks_findIn X hs).here ?_)))))
  refine wpAny_bind (wpAny_askSetting (wpAny_ite ?_))
  have fin : wpAny M A (call (.builtin "object.__ne__") ([.ref x] ++ args) >>= fun v => pure (some v)) Q E s := wpAny_bind (wpAny_mono h (fun v s' h' => wpAny_pure h') fun _ _ h' => h')
  split
  · exact wpAny_bind (wpAny_of_eq (F.cmp_object.ne.bind _) (wpAny_pure (by exact fin)))
  · exact wpAny_tryCatch (wpAny_bind (wpAny_of_eq (F.cmp_object.ne.bind _) (wpAny_pure (by exact fin))))
theorem rc_ne {oy : Obj} {od' : Option Obj} (hu : A.units + 1 < cLine) (X : K.In s.heap) (I : PySem.W.InstAt s.heap x ox C od) (J : PySem.W.InstAt s.heap y oy C od') (hm : PySem.W.mroIn K C (.type "object") = some true)
    (hn : PySem.W.findIn K (.ref C) "__ne__" = some (some (.builtin "object.__ne__"))) (hs : PySem.W.findIn K (.ref C) "__eq__" = some (some (.ref f))) (hf : PySem.W.isFn K (.ref f) = true) {Q : Value → Shared → Prop}
    (hcall : wpAny (model prog w) A.in1 (call (.ref f) [.ref x, .ref y]) (fun v s' => ∃ b, v = .bool b ∧ Q (.bool (!b)) s') E s) : wpAny (model prog w) A (richCompare .NotEq (.ref x) (.ref y)) Q E s := by
  have one : wpAny (model prog w) A (tryCompare (.ref x) "__ne__" (.ref y)) (fun r s' => ∃ v, r = some v ∧ Q v s') E s := by
    unfold tryCompare
    refine wpAny_bind (ifBound_objNe X I hn (call_ne X I hm hs hf hu (wpAny_mono hcall (fun v s' hv => ?_) fun _ _ e => e)))
    obtain ⟨b, rfl, hq⟩ := hv
    exact ⟨b, rfl, wpAny_pure ⟨_, rfl, hq⟩⟩
  unfold richCompare
  simp only [oneThing_ref]
  refine wpAny_holding (wpAny_bind (wpAny_cRoomFor (Nat.lt_of_succ_lt hu) ?_))
  refine wpAny_bind (I.type.here (wpAny_bind (J.type.here ?_)))
  rw [cmpInfo_NotEq]
  dsimp only
  rw [show (Value.ref C != Value.ref C) = false from by simp]
  simp only [Bool.false_eq_true, if_false]
  refine wpAny_bind (wpAny_pure ?_)
  simp only [Bool.false_eq_true, if_false]
  refine wpAny_bind (wpAny_mono one (fun r s' z => ?_) fun _ _ e => e)
  obtain ⟨v, rfl, hq⟩ := z
  exact wpAny_pure hq
end
end HN2
namespace DL
open PySem L2 PyProof.Rows
section
variable {X : Cx} {cA : Str → Addr} {C : Str} {f : Addr} {ps : List Str} {k : Nat} {kio : Option Nat} {F : List D → FR}
structure NoNe (K : PySem.W.Frag) (C : Addr) : Prop where
  ne : PySem.W.findIn K (.ref C) "__ne__" = some (some (.builtin "object.__ne__"))
  ob : PySem.W.mroIn K C (.type "object") = some true
theorem op_ownNe (Fo : OkC X.prog X.w X.K X.mg X.base f ps k (spF X.K cA 2 kio F)) (hr : Room (k + 1) X.A) (hm : Meth X.K (cA C) "__eq__" f) (hn : NoNe X.K (cA C)) : OpR X (compareOp .NotEq) (rOwn X.K cA C kio F true) := by
  intro pins s σ H x y v u Q I rx ry h
  obtain ⟨fd, Fo, hb⟩ := Fo.ex
  obtain ⟨a, b, dx, dy, fs, gs, rfl, rfl, ha, hb', hsp⟩ := h
  cases rx
  cases ry
  obtain ⟨mA, J, _⟩ := ins_get I.hok ha
  obtain ⟨mB, J', _⟩ := ins_get I.hok hb'
  obtain ⟨od, J, _⟩ := J.look
  obtain ⟨od', J', _⟩ := J'.look
  show wpAny (model X.prog X.w) X.A (richCompare .NotEq (.ref a) (.ref b)) (EP X pins σ Q) X.xe s
  refine HN2.rc_ne (by have := hr.units; omega) I.kIn J J' hn.ob hn.ne hm.at_ hm.fn ?_
  refine wpAny_mono (run_own (Q := fun v H' => ∃ t, v = .bl t ∧ Q (.bl (!t)) H') Fo hr.in1 rfl hb I ?_) (fun v s' hv => ?_) fun _ _ x => x
  · obtain ⟨h1, ds, Z, L, r, w, p⟩ := hsp
    refine ⟨h1, ds, Z, L, r, w, ?_⟩
    cases hF2 : F ds with
    | rt d io => rw [hF2] at p; exact fun v H' Z' fp g a1 a2 a3 a4 => let ⟨t, e, q⟩ := p v H' Z' fp g a1 a2 a3 a4; ⟨t, e, t, e, q⟩
    | ex e io => rw [hF2] at p; exact p
    | st => rw [hF2] at p; exact p
  · obtain ⟨t, H', rfl, I', t', e, q⟩ := hv
    cases e
    exact ⟨t, rfl, .bl (!t), H', I', rfl, q⟩
def gOwn (C : Str) (F : List D → FR) (neg : Bool) (d1 d2 : D) : Option D := match d1, d2 with
  | .n (.ins C1 fs1) false xs1, .n (.ins C2 fs2) false xs2 => if C1 = C ∧ C2 = C ∧ isFL xs1 = true ∧ isFL xs2 = true then (match F [.n (.ins C1 fs1) false xs1, .n (.ins C2 fs2) false xs2] with
    | .rt (.a (.bl t)) _ => some (.bl (if neg = true then !t else t))
    | _ => none) else none
  | _, _ => none
theorem vop_own {K : PySem.W.Frag} {neg : Bool} : VOp2 K cA (rOwn K cA C kio F neg) (gOwn C F neg) := by
  refine ⟨@fun d1 d2 d v1 v2 H Z f1 f2 Q h1 h2 w hg q => ?_⟩
  unfold gOwn at hg
  split at hg
  · rename_i C1 fs1 xs1 C2 fs2 xs2
    split at hg
    · rename_i hc
      obtain ⟨c1, c2, e1, e2⟩ := hc
      subst c1
      subst c2
      split at hg
      · rename_i t io hF
        cases hg
        have z1 := repD_isF _ h1 (by simp [isF, e1])
        have z2 := repD_isF _ h2 (by simp [isF, e2])
        subst z1 z2
        obtain ⟨p1, vs1, g1, dx1, rfl, a1, _⟩ := rep_ins h1
        obtain ⟨p2, vs2, g2, dx2, rfl, a2, _⟩ := rep_ins h2
        have hr : RepL K cA H Z [.n (.ins C2 fs1) false xs1, .n (.ins C2 fs2) false xs2] [.ref p1, .ref p2] [] := ⟨.ref p1, [.ref p2], [], [], rfl, h1, ⟨.ref p2, [], [], [], rfl, h2, ⟨rfl, rfl⟩, rfl⟩, rfl⟩
        refine ⟨p1, p2, dx1, dx2, _, _, rfl, rfl, a1, a2, rfl, _, Z, [], hr, w, ?_⟩
        rw [hF]
        intro v H' Z' fp g hi hd w' F'
        obtain ⟨e3, e4⟩ := hd
        subst e3 e4
        refine ⟨t, rfl, q _ H' Z' [] ⟨rfl, rfl⟩ (wf0 w') (F'.less fun a m => nomatch m)⟩
      · cases hg
    · cases hg
  · cases hg
theorem cr_ownNe (Fo : OkC X.prog X.w X.K X.mg X.base f ps k (spF X.K cA 2 kio F)) (hr : Room (k + 1) X.A) (hm : Meth X.K (cA C) "__eq__" f) (hn : NoNe X.K (cA C)) : CR2 X cA .NotEq (gOwn C F true) := ⟨_, op_ownNe (C := C) Fo hr hm hn, vop_own, by decide, by decide⟩
end
end DL
namespace DL
open PySem L2 PyProof.Rows
structure ClsX (K : PySem.W.Frag) (C : Addr) : Prop where
  ne : PySem.W.findIn K (.ref C) "__ne__" = some (some (.builtin "object.__ne__"))
  ob : PySem.W.mroIn K C (.type "object") = some true
  kc : PySem.W.findIn K (.ref C) "__class__" = some (some (.builtin "object.__class__"))
  kg : PySem.W.specialIn K (.builtin "object.__class__") "__get__" = some (some (.builtin "getset_descriptor.__get__"))
  kt : PySem.W.takesIn K (.builtin "object.__class__") = some true
def clsXB (K : PySem.W.Frag) (C : Addr) : Bool := decide (PySem.W.findIn K (.ref C) "__ne__" = some (some (.builtin "object.__ne__"))) && (decide (PySem.W.mroIn K C (.type "object") = some true) &&
  (decide (PySem.W.findIn K (.ref C) "__class__" = some (some (.builtin "object.__class__"))) && (decide (PySem.W.specialIn K (.builtin "object.__class__") "__get__" = some (some (.builtin "getset_descriptor.__get__"))) && decide (PySem.W.takesIn K (.builtin "object.__class__") = some true))))
theorem clsXB_ok {K : PySem.W.Frag} {C : Addr} (h : clsXB K C = true) : ClsX K C := by
  unfold clsXB at h
  simp only [Bool.and_eq_true, decide_eq_true_eq] at h
  exact ⟨h.1, h.2.1, h.2.2.1, h.2.2.2.1, h.2.2.2.2⟩
theorem ClsX.noNe {K : PySem.W.Frag} {C : Addr} (h : ClsX K C) : NoNe K C := ⟨h.ne, h.ob⟩
def obsX (fa : List He.Fa) (fn : List He.DefD) (xs : List Str) (K : PySem.W.Frag) : He.AlD × Bool := (He.obsD fa fn K, xs.all fun x => clsXB K (He.ga K x))
def SaysX (fa : List He.Fa) (fn : List He.DefD) (xs : List Str) (K : PySem.W.Frag) : Prop := obsX fa fn xs K = (He.valD fn, true)
theorem SaysX.d {fa : List He.Fa} {fn : List He.DefD} {xs : List Str} {K : PySem.W.Frag} (h : SaysX fa fn xs K) : He.SaysD fa fn K := congrArg (fun z : He.AlD × Bool => z.1) h
theorem SaysX.x {fa : List He.Fa} {fn : List He.DefD} {xs : List Str} {K : PySem.W.Frag} (h : SaysX fa fn xs K) (i : Nat) {x : Str} (e : xs[i]? = some x) : ClsX K (He.ga K x) := by
  have c : (xs.all fun x => clsXB K (He.ga K x)) = true := congrArg (fun z : He.AlD × Bool => z.2) h
  exact clsXB_ok (List.all_eq_true.mp c x (List.mem_of_getElem? e))
def gIsiC (C : Str) : D → Option D
  | .n (.ins C' _) _ _ => if C' = C then some (.bl true) else none
  | _ => none
theorem vu_isiC {K : PySem.W.Frag} {cA : Str → Addr} {C : Str} (h : ClsX K (cA C)) : VU K cA (fun v H Q => rIsi K [v, .ref (cA C)] H Q) (gIsiC C) := by
  refine ⟨@fun d1 d v1 H Z f1 Q h1 w hg q => ?_⟩
  unfold gIsiC at hg
  split at hg
  · rename_i C' fs o xs
    split at hg
    · rename_i e
      cases hg
      subst e
      obtain ⟨p, vs, g, dx, rfl, a1, _, cl, _⟩ := rep_ins h1
      exact ⟨_, _, .ref (cA C'), .ref (cA C'), true, rfl, .own _, .base (.ins a1 cl h.kc h.kg h.kt h.ob), (by unfold PySem.W.kitOne; simp), q _ H Z [] ⟨rfl, rfl⟩ w Fr.refl⟩
    · cases hg
  · cases hg
section
variable {X : Cx} {cA : Str → Addr} {W : WX} {fa fb : Env → Out D} {a b : Expr} {pos : Pos}
end
end DL
namespace DL
open PySem L2 PyProof.Rows NdefX
structure SupC (P : Program) (K : PySem.W.Frag) (C fI : Addr) (f : Str) : Prop where
  ox : OexC K C
  keep : PySem.W.keepIn K (.ref C) = true
  iC : PySem.W.findIn K (.ref C) "__init__" = some (some (.ref fI))
  tI : PySem.W.typeIn K (.ref fI) = some (.type "function")
  noF : PySem.W.findIn K (.ref C) f = some none
  cl : ∃ cd, PySem.W.clsIn K C = some cd ∧ PySem.W.mroIn K C (.ref C) = some true
  su : PySem.W.ks_superIn K C C "__init__" = some (some (.builtin "ValueError.__init__"))
  ve : PySem.W.subIn K (.ref C) (.type "ValueError") = some true
  op : PySem.W.nsIn K cStatics "thirdparty.any" = some none
  top : (P.main.scope.names.lookup ("super" : Str)).isSome = false
structure SupF (P : Program) (K : PySem.W.Frag) (C fI : Addr) (fd : FuncData) (F : NF) : Prop where
  ex : ∃ (oc : Value) (od : Option Addr) (doc pm ctv : Value) (osl : Array (Option Value)), fd = F.fd doc pm ctv ∧ K.lookup fI = some ⟨oc, od, .func fd, osl⟩
  cd : PySem.W.codeIn K (.ref F.c) F.qual = true
  file : ∃ ccl cdd vs ccs file tf, K.lookup F.c = some ⟨ccl, cdd, .fields vs, ccs⟩ ∧ vs[2]? = some (.str file tf) ∧ ((P.main.file : Str) == file) = true
  cell : ∃ cc cl cld csl, F.cl = [(("__class__" : Str), cc)] ∧ K.lookup cc = some ⟨cl, cld, .cell (some (.ref C)), csl⟩
section
variable {P : Program} {w : World} {K : PySem.W.Frag} {mg : Str → Option Value} {base : Heap} {C fI : Addr} {f p : Str} {fd : FuncData} {F : NF}
abbrev scx (P : Program) (w : World) (K : PySem.W.Frag) (mg : Str → Option Value) (base : Heap) (p : Str) (F : NF) (fI : Addr) (A : Around) (outer : List PySem.Env) (s : Shared) (H : Hp) (E : XK) : Cx := ncx (L2.CX P w) P w K mg base ["self", p, "__class__"] F fI A outer s H E
def spSup (K : PySem.W.Frag) (C : Addr) (f : Str) (ok : V → Bool) : Sp := fun vs H Q E => vs.length = 2 ∧ ∃ a x, vs = [.ref a, x] ∧ ok x = true ∧ H a = some (exo a C none) ∧ ∀ dx, H dx = none → dx ≠ a → Q .non (upd (upd H dx (exd dx [(f, x)])) a (exo a C (some dx)))
theorem call_mw {X : Cx} {pins : List (Addr × Obj)} {σ : L2.St} {H : Hp} {s : Shared} {a u C : Addr} {us : List Value} {A : Around} {E : Value → Shared → Prop} {Q : Value → Shared → Prop} (T : OexC X.K C) (I : Inv X pins σ H s) (e : H a = some (exo a C none)) (hu : s.heap.get? u = some (PySem.W.kxs_mw "ValueError.__init__" a))
    (hl : us.length ≤ sizeLine) (h : ∀ s', Inv X pins σ H s' → Q .none s') : wpAny (model X.prog X.w) A (call (.ref u) us) Q E s := by
  obtain ⟨nm, q, N, bs, bm, sn, sub, ab, col, dd, k0, k1, k2, k3, k5, hC, hbm⟩ := T.cls
  obtain ⟨t1, ho⟩ := exo_at I.hok e
  have hC' := I.kIn _ _ hC
  obtain ⟨hp, g, d, t, os⟩ := s
  have FB := PySem.F.excBase_ValueError
  refine wpAny_call (codeAny_of_tree ?_)
  show wpAny _ A.in1 (callAny (.ref u) ⟨us, []⟩) _ _ _
  simp only [callAny]
  refine wpAny_bind (wpAny_load hu ?_)
  simp only [PySem.W.kxs_mw, show (Value.type "method-wrapper" == Value.type "method" || Value.type "method-wrapper" == Value.type "builtin_function_or_method" || Value.type "method-wrapper" == Value.type "method-wrapper") = true by decide, if_true]
  refine PySem.W.KFB.if_so (by decide) ?_
  refine wpAny_bind (PySem.W.check_bound_init FB.toExcCallFacts hC' ho rfl ?_)
  refine wpAny_bind (wpAny_pure (wpAny_pure ?_))
  refine ⟨plainId_quiet FB.init.plain _, codeAny_builtin FB.initEntry ?_⟩
  refine PySem.W.exc_init_tree (cls := .ref C) (t0 := t1) (dv := none) (c2 := .none) (c3 := .none) (b4 := .bool false) ho hl fun h' k hx _ => ?_
  have J := I.write (t' := t) (x := a) (e := a) (o := exo a C none) (by rw [e]; exact True.intro) (.inl rfl) k ⟨_, hx⟩ (exo_ok hx)
  have eu : upd H a (exo a C none) = H := by
    funext b
    by_cases hb : b = a
    · rw [hb, upd_same, e]
    · rw [upd_ne hb]
  rw [eu] at J
  exact h _ J
theorem sup_stmt {A : Around} {outer : List PySem.Env} {s0 : Shared} {H0 : Hp} {E0 : XK} (T : SupC P K C fI f) (TF : SupF P K C fI fd F) (hself : (F.params.posonlyargs ++ F.params.args).head?.map (·.arg) = some "self") (hsl : F.scope.names.lookup ("self" : Str) = some .local)
    (hsu : F.scope.names.lookup ("super" : Str) = some .globalImplicit) (hcl : F.scope.names.lookup ("__class__" : Str) = some .free) (hmg : mg "super" = none)
    {e : Expr} {te : TE} {p0 p1 p2 p3 p4 : Pos} (he : PE (scx P w K mg base p F fI A outer s0 H0 E0) e te) {s : Shared} {σ : L2.St} {H : Hp} {a : Addr} {Q : Flow → Shared → Prop}
    (I : Inv (scx P w K mg base p F fI A outer s0 H0 E0) [] σ H s) (hσ : σ[0]? = some (some (.ref a))) (ha : H a = some (exo a C none)) (hte : te σ H fun v H1 => H1 = H ∧ [v].length = 1)
    (hk : F.scope.kind = .function) (hst : starEach [e] (envF F fI s0.heap.objs.size) = (false, eval e (envF F fI s0.heap.objs.size)) :: starEach [] (envF F fI s0.heap.objs.size))
    (hsw : swapsWith (.Call (.Attribute (.Call (.Name "super" p0) [] [] p1) "__init__" p2) [e] [] p3) none p4.line (envF F fI s0.heap.objs.size) = pure false)
    (hev : ∃ pl : Sem Bool, eval (.Call (.Attribute (.Call (.Name "super" p0) [] [] p1) "__init__" p2) [e] [] p3) (envF F fI s0.heap.objs.size) = (do
      let ov ← attributeBase (.Call (.Name "super" p0) [] [] p1) "__init__" (envF F fI s0.heap.objs.size) (eval (.Call (.Name "super" p0) [] [] p1) (envF F fI s0.heap.objs.size))
      standAt p2.atName
      let (f, first) ← holding [ov] (getMethod ov "__init__" pl)
      callWith p3 f first (backTo p3 (starEach [e] (envF F fI s0.heap.objs.size))) []))
    (h : ∀ s', Inv (scx P w K mg base p F fI A outer s0 H0 E0) [] σ H s' → Q .next s') :
    _root_.PySem.wpAt (model P w) (A.deeper (envF F fI s0.heap.objs.size)) (.func F.body (envF F fI s0.heap.objs.size)) (exec (.Expr (.Call (.Attribute (.Call (.Name "super" p0) [] [] p1) "__init__" p2) [e] [] p3) p4) (envF F fI s0.heap.objs.size)) Q
      (scx P w K mg base p F fI A outer s0 H0 E0).xe s := by
  obtain ⟨oc, od, doc, pm, ctv, osl, rfl, lk⟩ := TF.ex
  obtain ⟨ccl, cdd, vs, ccs, file, tf, lc, hvs, hfile⟩ := TF.file
  obtain ⟨cc, ccl2, cld, csl, ecl, lcell⟩ := TF.cell
  obtain ⟨cd, hcd, hmro⟩ := T.cl
  obtain ⟨pl, hev⟩ := hev
  have KX : K.In s.heap := I.kIn
  have hat : (("__init__" : Str) == ("__class__" : Str)) = false := by decide +kernel
  obtain ⟨ar, hp, har⟩ : ∃ ar, (F.params.posonlyargs ++ F.params.args).head? = some ar ∧ ar.arg = "self" := by
    cases q : (F.params.posonlyargs ++ F.params.args).head? with
    | none => rw [q] at hself; cases hself
    | some ar => rw [q] at hself; exact ⟨ar, rfl, Option.some.inj hself⟩
  obtain ⟨m, hn, hl⟩ := I.loc
  obtain ⟨u, ru, lu⟩ := hl 0 "self" (.ref a) rfl hσ (.inl hsl)
  obtain rfl : u = Value.ref a := ru
  have hm : m "self" = some (.ref a) := by
    rcases lu with ⟨_, e⟩ | ⟨q, _⟩
    · exact e
    · have q : F.scope.names.lookup ("self" : Str) = some .cell ∨ F.scope.names.lookup ("self" : Str) = some .free := q
      rw [hsl] at q
      rcases q with q | q <;> cases q
  obtain ⟨t1, hoa⟩ := exo_at I.hok ha
  have IA : PySem.W.InstAt s.heap a { cls := .ref C, dict := none, data := .fields #[.ref t1, .none, .none, .none, .bool false, .none] } C none := ⟨hoa, rfl, rfl, trivial⟩
  obtain ⟨oD, hD1, hD2⟩ : ∃ oD, s.heap.get? C = some oD ∧ oD.data = .cls cd := by
    unfold PySem.W.clsIn at hcd
    split at hcd
    · rename_i c d cd' sl ho
      cases hcd
      exact ⟨_, KX _ _ ho, rfl⟩
    · cases hcd
  refine ks_wpAt_Expr_any (env := envF F fI s0.heap.objs.size) (ks_wpAt_MethodCall (pl := pl) ?_ hev) (by unfold interactive; rw [hk]; rfl) hsw
  refine ks_wpAt_super_base (env := envF F fI s0.heap.objs.size) (f := fI) (cc := F.c) hsu hcl hat rfl (KX _ _ lk) rfl hp rfl (KX _ _ lc) rfl hvs hfile T.top ?_
  rw [har]
  obtain ⟨mb, b1, b2⟩ := I.mod.blt
  refine PySem.W.ks_loadName_global hk hsu (Calls.loadGlobal_builtin (env := envF F fI s0.heap.objs.size) (I.mod.glob.keeps I.bk) hmg (b1.keeps I.bk) ((b2 _ (by decide)).trans (by decide +kernel)) ⟨rfl, ?_⟩)
  refine wpAny_loadName_free hk hcl (by show List.lookup _ F.cl = some cc; rw [ecl]; rfl) ⟨_, KX _ _ lcell, rfl⟩ ?_
  refine wpAny_loadName_local hk hsl hn hm ?_
  obtain ⟨hh, g, d, t, os⟩ := s
  refine ks_wpAny_isType_cls hD1 hD2 ⟨rfl, ?_⟩
  refine ks_wpAny_call_super hD1 hD2 hoa rfl (fun c e => by cases e) (PySem.W.looks_mroIn KX hmro) (fun h' e1 k1 => ?_)
  have I1 : Inv (scx P w K mg base p F fI A outer s0 H0 E0) [] σ H ⟨h', g, d, t, os⟩ := I.kept (t' := t) (h' := h') k1
  have KX1 : K.In h' := I1.kIn
  obtain ⟨t2, hoa1⟩ := exo_at I1.hok ha
  have IA1 : PySem.W.InstAt h' a { cls := .ref C, dict := none, data := .fields #[.ref t2, .none, .none, .none, .bool false, .none] } C none := ⟨hoa1, rfl, rfl, trivial⟩
  have hI : PySem.W.Looks (model P w) h' (isInstance (.ref a) (.type "ValueError")) true := IA1.type.andThen (PySem.W.looks_subIn KX1 T.ve)
  have hsu2 : PySem.W.alongIn K "__init__" ((cd.mro.dropWhile (· != .ref C)).drop 1) = some (some (.builtin "ValueError.__init__")) := by
    have z := T.su
    unfold PySem.W.ks_superIn at z
    rw [hcd] at z
    exact z
  refine PySem.W.kxs_getMethod PySem.W.kxs_ValueError e1 (PySem.W.looks_opaque KX1 T.op) (l₀ := cd.mro) ?_ rfl KX1 hsu2 hI (PySem.W.ks_ne KX1 IA1 hcd) (by decide +kernel) ?_
  · exact fun A Q E s k q => wpAny_bind ((PySem.W.looks_clsIn KX1 hcd) A _ E s k (wpAny_pure q))
  have k2 : ∀ b o, h'.get? b = some o → (h'.push (PySem.W.kxs_mw "ValueError.__init__" a)).get? b = some o := fun b o e => Heap.get?_push_of_some _ e
  have hmw : (h'.push (PySem.W.kxs_mw "ValueError.__init__" a)).get? h'.objs.size = some (PySem.W.kxs_mw "ValueError.__init__" a) := Heap.get?_push_at rfl rfl
  have I2 : Inv (scx P w K mg base p F fI A outer s0 H0 E0) [] σ H ⟨h'.push (PySem.W.kxs_mw "ValueError.__init__" a), g, d, t + 1, os⟩ := I1.kept (t' := t + 1) k2
  have I3 : Inv (scx P w K mg base p F fI A outer s0 H0 E0) [(h'.objs.size, PySem.W.kxs_mw "ValueError.__init__" a)] σ H ⟨h'.push (PySem.W.kxs_mw "ValueError.__init__" a), g, d, t + 1, os⟩ := I2.pins_of fun q hq => by
    obtain rfl : q = (h'.objs.size, PySem.W.kxs_mw "ValueError.__init__" a) := by simpa using hq
    exact ⟨hmw, I1.hok.fresh (Nat.le_refl _), fun z => absurd I1.lt (by rw [← z]; exact Nat.lt_irrefl _), I1.nofs (Nat.le_refl _), fun v z => by cases z⟩
  refine PySem.W.kxs_callWith (i := "ValueError.__init__") (x := a) (by rw [hst]; rfl) ?_
  rw [hst]
  refine Calls.evalArgs_plain ?_
  have hpa : PA (scx P w K mg base p F fI A outer s0 H0 E0) [e] (tCons te tNil) := pa_cons he pa_nil hst
  have hr := hpa.run p3 [(h'.objs.size, PySem.W.kxs_mw "ValueError.__init__" a)] _ σ H (fun vs H1 => H1 = H ∧ vs.length = 1) I3
  rw [show starEach [e] (scx P w K mg base p F fI A outer s0 H0 E0).env = (false, eval e (envF F fI s0.heap.objs.size)) :: starEach [] (envF F fI s0.heap.objs.size) from hst] at hr
  refine wpAny_mono (hr ?_) (fun us s3 ⟨vs', H3, I4, rv, eH, el⟩ => ?_) (fun _ _ z => z)
  · show te σ H fun x H1 => H1 = H ∧ [x].length = 1
    exact hte
  · subst eH
    have pn := I4.pin (h'.objs.size, PySem.W.kxs_mw "ValueError.__init__" a) (List.mem_append_right _ List.mem_cons_self)
    refine ⟨pn.1, ?_⟩
    refine call_mw T.ox I4 ha pn.1 (by show us.length ≤ _; rw [← rv.length, el, sizeLine_eq]; decide) fun s' J => ?_
    exact h s' (J.pins_of (pins' := []) fun q hq => by cases hq)
structure SupW (F : NF) (p f : Str) (e : Expr) : Prop where
  sc : NScope ["self", p, "__class__"] ["self", p] ["__class__"] F.scope
  self_ : (F.params.posonlyargs ++ F.params.args).head?.map (·.arg) = some "self"
  su : F.scope.names.lookup ("super" : Str) = some .globalImplicit
  body : ∃ p0 p1 p2 p3 p4 q1 q2 q3 q4, F.body = [.Expr (.Call (.Attribute (.Call (.Name "super" p0) [] [] p1) "__init__" p2) [e] [] p3) p4, .Assign [.Attribute (.Name "self" q1) f q2] (.Name p q3) q4] ∧
    ∀ fI L : Addr, ∃ pl : Sem Bool, eval (.Call (.Attribute (.Call (.Name "super" p0) [] [] p1) "__init__" p2) [e] [] p3) (envF F fI L) = (do
      let ov ← attributeBase (.Call (.Name "super" p0) [] [] p1) "__init__" (envF F fI L) (eval (.Call (.Name "super" p0) [] [] p1) (envF F fI L))
      standAt p2.atName
      let (f, first) ← holding [ov] (getMethod ov "__init__" pl)
      callWith p3 f first (backTo p3 (starEach [e] (envF F fI L))) [])
  dbg : (p == ("__debug__" : Str)) = false ∧ (p == ("__classdict__" : Str)) = false
  st : ∀ fI L : Addr, starEach [e] (envF F fI L) = (false, eval e (envF F fI L)) :: starEach [] (envF F fI L)
  sw : ∀ (fI L : Addr) (p0 p1 p2 p3 p4 : Pos), swapsWith (.Call (.Attribute (.Call (.Name "super" p0) [] [] p1) "__init__" p2) [e] [] p3) none p4.line (envF F fI L) = pure false
  sw2 : ∀ (fI L : Addr) (q1 q2 q3 q4 : Pos), swapsWith (.Name p q3) (some (.Attribute (.Name "self" q1) f q2)) q4.line (envF F fI L) = pure false
theorem sup_ok {ok : V → Bool} {e : Expr} {te : TE} {k : Nat} (T : SupC P K C fI f) (TF : SupF P K C fI fd F) (Wd : SupW F p f e) (hmg : mg "super" = none)
    (he : ∀ (A : Around) (outer : List PySem.Env) (s0 : Shared) (H0 : Hp) (E0 : XK), PE (scx P w K mg base p F fI A outer s0 H0 E0) e te)
    (hte : ∀ (σ : L2.St) (H : Hp) (x : V), σ[1]? = some (some x) → ok x = true → te σ H fun v H1 => H1 = H ∧ [v].length = 1) :
    FnOk P w K mg base (L2.CX P w) (k + 1) fI fd ["self", p] (spSup K C f ok) := by
  refine ⟨fun vs H Q E h => h.1, fun A outer s H args us vs Q E hr e0 hb r hsp => ?_⟩
  obtain ⟨hl, a, x, rfl, hok, ha, hq⟩ := hsp
  obtain ⟨oc, od, doc, pm, ctv, osl, efd, lk⟩ := TF.ex
  have S := Wd.sc
  have KX : K.In s.heap := e0.mod.kin.keeps fun b o e => (e0.bs b o e).1
  have lim : s.heap.NoLimit := e0.mod.nolimit.keeps fun b o e => (e0.bs b o e).1
  obtain ⟨cc, ccl2, cld, csl, ecl, lcell⟩ := TF.cell
  have CA : CellsAt F.cl ["__class__"] [none] s.heap H := by
    refine ⟨rfl, fun y c e1 => ?_, fun x y c e1 e2 => ?_, fun i y e1 => ?_⟩
    · rw [ecl] at e1
      have ec : c = cc := by
        by_cases hy : (y == ("__class__" : Str)) = true
        · simp only [List.lookup, hy] at e1
          exact (Option.some.inj e1).symm
        · simp only [List.lookup, (Bool.not_eq_true _).mp hy] at e1
          cases e1
      subst ec
      have z := e0.bs _ _ (e0.mod.kin _ _ lcell)
      exact ⟨z.2, _, _, z.1, rfl⟩
    · rw [ecl] at e1 e2
      have one : ∀ {z : Str} {c : Addr}, List.lookup z [(("__class__" : Str), cc)] = some c → z = "__class__" := fun {z c} e => by
        by_cases hy : (z == ("__class__" : Str)) = true
        · exact beq_iff_eq.mp hy
        · simp only [List.lookup, (Bool.not_eq_true _).mp hy] at e
          cases e
      rw [one e1, one e2]
    · have ey : y = "__class__" := by
        cases i with
        | zero => simpa using e1.symm
        | succ i => simp at e1
      subst ey
      refine ⟨cc, by rw [ecl]; rfl, fun v e2 => ?_⟩
      cases i with
      | zero => simp at e2
      | succ i => simp at e1
  have efd' := efd
  subst efd
  refine ks_codeAny_call_defAt (body := F.body) hr.depth (KX _ _ lk) rfl lim (PySem.W.codeRec_of KX TF.cd) rfl hb S.nocell (fun ⟨n, _⟩ hy => S.par n (List.of_mem_zip hy).1) (fun h₁ hns hk₁ => ?_) S.co S.gen S.kind
  have I : Inv (scx P w K mg base p F fI A outer s H E) [] (startF ["self", p, "__class__"] [V.ref a, x] [none]) H { s with heap := h₁, toks := s.toks + ((["self", p] : List Str).zip us).length } := inv_startN S hr.hd e0 (by simp) r CA hns hk₁
  show _root_.PySem.wpAt (model P w) (A.deeper (envF F fI s.heap.objs.size)) (.func F.body (envF F fI s.heap.objs.size)) (execs F.body (envF F fI s.heap.objs.size)) _ _ _
  obtain ⟨p0, p1, p2, p3, p4, q1, q2, q3, q4, hbody, hev⟩ := Wd.body
  have hgo : ∀ (bd : List Stmt), bd = F.body → _root_.PySem.wpAt (model P w) (A.deeper (envF F fI s.heap.objs.size)) (.func F.body (envF F fI s.heap.objs.size)) (execs bd (envF F fI s.heap.objs.size)) (fun f s' => CR (L2.CX P w) outer P w H s Q E (.ok (.ret (match f with | .ret v => v | _ => .none))) s')
      (fun e s' => wpAny (model P w) (A.deeper (envF F fI s.heap.objs.size)) (leaving (envF F fI s.heap.objs.size) e) (fun _ s'' => CR (L2.CX P w) outer P w H s Q E (.error e) s'') (fun e' s'' => CR (L2.CX P w) outer P w H s Q E (.error e') s'') s')
      { s with heap := h₁, toks := s.toks + ((["self", p] : List Str).zip us).length } := by
    intro bd ebd
    rw [hbody] at ebd
    subst ebd
    refine ks_wpAt_execs_cons ?_
    refine sup_stmt T TF Wd.self_ (S.par "self" (by simp)) Wd.su (S.frk "__class__" (by simp)) hmg (he A outer s H E) I rfl ha (hte [some (.ref a), some x, none] H x rfl hok) S.kind (Wd.st _ _) (Wd.sw _ _ _ _ _ _ _) (hev _ _) (fun s' I' => ?_)
    show _root_.PySem.wpAt _ _ _ (execs [_] _) _ _ _
    refine wpAt_of_wpAny ?_
    have hs2 : PSs (scx P w K mg base p F fI A outer s H E) [.Assign [.Attribute (.Name "self" q1) f q2] (.Name p q3) q4] _ := pss_one (ps_ost (pe_var (i := 0) rfl (.inl (S.par "self" (by simp)))) (pe_var (i := 1) rfl (.inl (S.par p (by simp))) Wd.dbg.1 Wd.dbg.2) (Wd.sw2 _ _ _ _ _ _))
    refine wpAny_mono (hs2.run [] s' _ H { nx := fun _ H' => Q .non H', rt := Q } I' ?_) (fun fl s2 hs => ?_) (fun e s2 hs => hs)
    · exact ⟨x, rfl, .ref a, rfl, a, C, rfl, T.ox, T.noF, .inl ⟨ha, fun dx n ne => hq dx n ne⟩⟩
    · have fin : ∀ {σ' : L2.St} {H' : Hp} {v : V} {u : Value}, Inv (scx P w K mg base p F fI A outer s H E) [] σ' H' s2 → L2.RelV v u → Q v H' → CE outer P w H s Q u s2 :=
        fun {σ' H' v u} J rv q => ⟨v, H', J.os, J.bare, J.base, J.hok, rv, q⟩
      cases fl with
      | ret u =>
        obtain ⟨v, σ', H', J, rv, q⟩ := hs
        exact fin J rv q
      | next =>
        obtain ⟨σ', H', J, q⟩ := hs
        exact fin (v := V.non) (u := Value.none) J rfl q
      | brk =>
        obtain ⟨_, _, _, q⟩ := hs
        exact False.elim q
      | cont =>
        obtain ⟨_, _, _, q⟩ := hs
        exact False.elim q
  exact hgo F.body rfl
end
end DL
namespace DL
open PySem L2 PyProof.Rows
def dRaise (C : Str) : Env → Fl := fun ρ => .ex ⟨C, []⟩ ρ
def stRaise (C f : Str) (ok : At → Bool) (d : D) (ρ : Env) : Fl := match d with
  | .a x => if ok x = true then .ex ⟨C, [(f, x)]⟩ ρ else .st
  | _ => .st
structure ExP (K : PySem.W.Frag) (C : Addr) : Prop where
  exc : PySem.W.excIn K C He.veBase "ValueError.__new__" = true
  keep : PySem.W.keepIn K (.ref C) = true
  sub : PySem.W.subIn K (.ref C) (.type "BaseException") = some true
  typ : PySem.W.typeIn K (.ref C) = some (.type "type")
structure ExS (P : Program) (w : World) (K : PySem.W.Frag) (mg : Str → Option Value) (base : Heap) (C : Addr) (f : Str) (ok : At → Bool) : Prop where
  ex : ∃ (fI : Addr) (fd : FuncData) (p : Str) (okV : V → Bool), SupC P K C fI f ∧ FnOk P w K mg base (L2.CX P w) 1 fI fd ["self", p] (spSup K C f okV) ∧ Binds K fd ["self", p] [] ∧ ∀ x : At, ok x = true → okV x.v = true
section
variable {X : Cx} {cA : Str → Addr} {W : WX} {k : Option Nat} {fa : Env → Out D} {e : Expr} {pos pos' : Pos}
theorem ds_raise {C m : Str} {j : Nat} {p p2 : Pos} (hc : X.calm = true) (tk : Takes X W) (q : ExP X.K (cA C)) (hg : Gl X C) (gC : X.mg C = some (.ref (cA C))) (hdb : (C == ("__debug__" : Str)) = false := by kernel_rfl) :
    DS X cA W k (dRaise C) (.Raise (some (.Call (.Name C p) [.Constant (.str m) j p2] [] pos)) none pos') :=
  ds_of (ps_raise hc tk (pmk_own PySem.F.excBase_ValueError q.exc gC q.keep (raises_own q.sub q.typ) hg hdb)) fun T σ H Z L ρ r w pp => pp _ _ _ H Z L r w ⟨rfl, .inl ⟨rfl, rfl⟩⟩ Fr.refl Pin.refl
theorem new_xd {K : PySem.W.Frag} {H : Hp} {Z : ZS} {ρ : Env} {σ : L2.St} {L : FP} {dx : Addr} {fs : List (Str × V)} (w : Wf H Z L) (r : RelL K cA H Z ρ σ L) (hn : H dx = none) :
    RelL K cA (upd H dx (.xd fs)) (ZU Z [dx]) ρ σ L ∧ Wf (upd H dx (.xd fs)) (ZU Z [dx]) L ∧ Fr H Z L (upd H dx (.xd fs)) (ZU Z [dx]) L := by
  refine ⟨relL_mono zu_sub (fun a o _ e => keep_new hn a o e) r, ?_, ?_⟩
  · exact (wf_new w hn (relL_trk r) : Wf (upd H dx (.xd fs)) Z ([dx] ++ L)).freeze fun a m => ⟨.xd fs, by
      have : a = dx := by simpa using m
      subst this; exact upd_same⟩
  · exact Fr.freeze (fp := [dx]) (M := L) (fr_new hn)
theorem ds_raiseV {C f : Str} {ok : At → Bool} {p : Pos} (hc : X.calm = true) (tk : Takes X W) (q : ExS X.prog X.w X.K X.mg X.base (cA C) f ok) (hr : Room 2 X.A) (hg : Gl X C) (gC : X.mg C = some (.ref (cA C))) (he : DE X cA W fa e)
    (hdb : (C == ("__debug__" : Str)) = false := by kernel_rfl) (hst : starEach [e] X.env = (false, eval e X.env) :: starEach [] X.env := by kernel_rfl) :
    DS X cA W k (dBind fa (stRaise C f ok)) (.Raise (some (.Call (.Name C p) [e] [] pos)) none pos') := by
  obtain ⟨fI, fd, pn, okV, T, F1, hb, hok⟩ := q.ex
  refine ds_of (ps_raise hc tk (pmk_oex (k := 1) T.ox T.iC T.tI F1 hr hb .nil passL hg gC (pa_cons he pa_nil hst) hdb hst (by rfl))) fun D σ H Z L ρ r w p => ?_
  show TEof X.K cA W fa σ H fun v H1 => _
  refine bind_te r w p fun d ρ1 v H1 Z1 L1 fp hd r1 w1 h1 F1 p => ?_
  unfold stRaise at p
  split at p
  · rename_i x
    split at p
    · rename_i hx
      obtain ⟨e1, e2⟩ := h1
      subst e1 e2
      refine ⟨by simp, fun a ha => ⟨rfl, a, x.v, rfl, hok x hx, upd_same, fun dx hdx hne => ⟨rfl, dx, [(f, x.v)], upd_same, ?_, ?_, ?_⟩⟩⟩
      · rw [upd_ne hne, upd_same]
      · rw [upd_ne hne] at hdx
        exact hdx
      · rw [upd_ne hne] at hdx
        have eH : upd (del (upd (upd (upd H1 a (exo a (cA C) none)) dx (exd dx [(f, x.v)])) a (exo a (cA C) (some dx))) a) dx (.xd [(f, x.v)]) = upd H1 dx (.xd [(f, x.v)]) := by
          funext b
          by_cases h1 : b = dx
          · subst h1; rw [upd_same, upd_same]
          · rw [upd_ne h1, upd_ne h1]
            by_cases h2 : b = a
            · subst h2; rw [del_same, ha]
            · rw [del_ne h2, upd_ne h2, upd_ne h1, upd_ne h2]
        rw [eH]
        obtain ⟨r2, w2, F2⟩ := new_xd (fs := [(f, x.v)]) w1 r1 hdx
        exact p _ _ _ _ _ _ r2 w2 ⟨rfl, .inr ⟨by simp, dx, rfl, .inr (by simp), upd_same⟩⟩ (F1.trans F2) Pin.refl
    · exact p.elim
  · exact p.elim
end
inductive HdX (X : Cx) : List ExceptHandler → List (Value × (Addr → Value → Option Addr → TS)) → Prop
  | nil : HdX X [] []
  | cons {x : Str} {c : Value} {ts : Addr → Value → Option Addr → TS} {b₀ : Stmt} {suite : List Stmt} {np pos' : Pos} {hds : List ExceptHandler} {l : List (Value × (Addr → Value → Option Addr → TS))} (hc : Names X x c)
      (hsu : ∀ (a : Addr) (oe : Obj) (cls : Value) (d : Option Addr) (pn : List (Addr × Obj)), Zc cls d oe → (∃ vs, oe.data = .fields vs) → PSs (X.suite a ((a, oe) :: pn)) (b₀ :: suite) (ts a cls d)) (r : HdX X hds l) :
      HdX X (.ExceptHandler (some (.Name x np)) none (b₀ :: suite) pos' :: hds) ((c, ts) :: l)
  | as {x n : Str} {i : Nat} {c : Value} {ts t0 : Addr → Value → Option Addr → TS} {b₀ : Stmt} {suite : List Stmt} {np pos' : Pos} {hds : List ExceptHandler} {l : List (Value × (Addr → Value → Option Addr → TS))} (hc : Names X x c) (hi : X.N[i]? = some n) (hln : X.env.kindOf n = some .local)
      (hsu : ∀ (a : Addr) (oe : Obj) (cls : Value) (d : Option Addr) (pn : List (Addr × Obj)), Zc cls d oe → (∃ vs, oe.data = .fields vs) → PSs (X.suite a ((a, oe) :: pn)) (b₀ :: suite) (t0 a cls d))
      (imp : ∀ a cls d D σ H, ts a cls d D σ H → t0 a cls d { nx := fun σ' H' => D.nx (σ'.set i none) H', rt := D.rt, bk := fun σ' H' => D.bk (σ'.set i none) H', ct := fun σ' H' => D.ct (σ'.set i none) H' } (σ.set i (some (.ref a))) H) (r : HdX X hds l) :
      HdX X (.ExceptHandler (some (.Name x np)) (some n) (b₀ :: suite) pos' :: hds) ((c, ts) :: l)
section
variable {X : Cx} {body : List Stmt} {h₀ : ExceptHandler} {hds : List ExceptHandler} {l : List (Value × (Addr → Value → Option Addr → TS))} {pos : Pos} {tb : WX → TS} {Wout : WX}
theorem ps_try_x (hs : X.stack = X.env :: X.outer) (hf : X.env.frame = some X.env.locals) (hN : X.N.Nodup) (tk : Takes X Wout)
    (hb : ∀ (W : WX) (pn : List (Addr × Obj)) (xe : Value → Shared → Prop), Takes (X.tr pn xe) W → PassesOwn (model X.prog X.w) X.A X.env xe → PSs (X.tr pn xe) body (tb W))
    (hh : HdX X (h₀ :: hds) l) : PS X (.Try body (h₀ :: hds) [] [] pos) (fun D σ H => tb (wMany X.K Wout D l) D σ H) := by
  refine ⟨fun pins s σ H D I h => ?_⟩
  have ok := I.ok
  have hfr : X.A.frames = some (X.env :: X.outer) := by rw [ok.frames, hs]
  refine wpAny_Try_except ?_
  refine wpAny_mono ((hb (wMany X.K Wout D l) (X.pn ++ pins) (fun e s₁ => wpAny (model X.prog X.w) X.A (noteFrame e X.env) (fun _ s₂ => wpAny (model X.prog X.w) X.A (setFlight e none) (fun _ s₃ =>
    wpAny (model X.prog X.w) X.A (handleBy e X.env (h₀ :: hds)) (SP X pins D) X.xe s₃) X.xe s₂) X.xe s₁) (fun u s' xx => ?_) PassesOwn.looking).run [] s σ H D (I.toTry _) h) (fun f s1 hsp => ?_) (fun e s1 he => he)
  · -- the catch
    obtain ⟨a, B, sI, pins', σ', H', cls, d, rfl, J', nb, up, sky, na, os, ag, w⟩ := xx
    have J : Inv X pins σ' H' sI := J'.ofTry ok
    have sky' : Sky B (X.env :: X.outer) a (Zc cls d) X.env.locals s'.heap := by rw [← hs]; exact sky
    show wpAny (model X.prog X.w) X.A (noteFrame (.ref a) X.env) _ _ _
    refine Sky.land Zc.steady hfr hf sky' fun h3 fl3 up3 => ?_
    have J3 : Inv X pins σ' H' { s' with heap := h3 } := J.landed nb fl3.1 (up.trans up3) os ag
    obtain ⟨oe3, vs3, he3, hz3, hd3⟩ := fl3.there
    have notFr : ∀ {h : Heap} {o : Obj} {vs : Array Value}, h.FunFrames B (X.env :: X.outer) → h.get? a = some o → o.data = .fields vs → a ∉ frs (X.env :: X.outer) := fun {h o vs} ff e dd hm => by
      obtain ⟨_, o', e', hnf⟩ := ff.mem hm
      rw [e] at e'; cases e'
      exact hnf _ dd
    have nfr := notFr fl3.2.2.1 he3 hd3
    have nL : a ≠ X.env.locals := fun z => nfr (List.mem_filterMap.mpr ⟨X.env, List.mem_cons_self, by rw [hf, z]⟩)
    have nF : a ∉ X.fs := fun hm => by
      obtain ⟨e, he, q⟩ := List.mem_filterMap.mp hm
      exact nfr (List.mem_filterMap.mpr ⟨e, List.mem_cons_of_mem _ he, q⟩)
    have S3 := J3.suite he3 hd3 na nL nF
    have go : ∀ {hds' : List ExceptHandler} {l' : List (Value × (Addr → Value → Option Addr → TS))}, HdX X hds' l' → wMany X.K Wout D l' cls d σ' H' →
        wpAny (model X.prog X.w) X.A (handleBy (.ref a) X.env hds') (SP X pins D) X.xe { s' with heap := h3 } := by
      intro hds' l' hk
      induction hk with
      | nil =>
        intro w
        refine wpAny_handleBy_nil ?_
        obtain ⟨k1, k2, k3, oe, vs, T, oT, ts', he, hz, hd, h1, hr⟩ := id fl3
        unfold PySem.passOn
        refine wpAny_bind (wpAny_field he hd h1 ?_)
        rw [if_neg (show ¬ ((Value.ref T == Value.none) = true) from by simp)]
        have fin : wpAny (model X.prog X.w) X.A (setFlight (.ref a) X.env.frame) (fun _ s4 => wpAny (model X.prog X.w) X.A (throw (.ref a) : Sem Flow) (SP X pins D) X.xe s4) X.xe { s' with heap := h3 } := by
          rw [hf]
          refine HandSPX.setFlight_upZ fl3 fun h4 hh4 up4 => wpAny_throw (tk _ _ ?_)
          exact ⟨a, B, sI, pins, σ', H', cls, d, rfl, J, nb, (up.trans up3).trans up4, .inr (.inr (by rw [hs]; exact hh4)), na, os, ag, w⟩
        first
          | exact wpAny_bind (wpAny_pure (wpAny_bind fin))
          | exact wpAny_bind fin
      | @cons x c ts b₀ suite np pos' hds2 l2 hc hsu r ih =>
        intro w
        obtain ⟨b, hb1, hyes, hno⟩ := w
        refine wpAny_handleBy_cons (codeAny_handlers_test ?_) (by intro q; cases q)
        have LT : PySem.W.Looks (model X.prog X.w) h3 (typeOf (.ref a)) cls := fun A Q E s k q => wpAny_typeOf_ref (k _ _ he3) (by rw [hz3.1]; exact q)
        have LM := PySem.W.exm_one (M := model X.prog X.w) (J3.kIn) LT hb1
        have test : ∀ {Q : Value → Shared → Prop} {E : Value → Shared → Prop}, Q c { s' with heap := h3 } → wpAny (model X.prog X.w) (X.A.mark (some (.ref a))) (eval (.Name x np) X.env) Q E { s' with heap := h3 } := fun {Q E} q => by
          obtain ⟨hg, hdbg, hm | ⟨hm, hv, hnn⟩⟩ := hc
          · exact ld_glob (X := X.suite a ((a, oe3) :: (X.pn ++ pins))) S3 hg hm q hdbg
          · exact ld_blt (X := X.suite a ((a, oe3) :: (X.pn ++ pins))) S3 hg hm hv q hnn hdbg
        refine test (LM.here ?_)
        cases b with
        | true =>
          refine codeAny_handlers_suite ?_
          refine HandSPX.lands_againZ fl3 fun h4 fl4 up4 => ?_
          have J4 : Inv X pins σ' H' { s' with heap := h4 } := J.landed nb fl4.1 ((up.trans up3).trans up4) os ag
          obtain ⟨oe4, vs4, he4, hz4, hd4⟩ := fl4.there
          have S4 := J4.suite he4 hd4 na nL nF
          refine wpAny_mono ((hsu a oe4 cls d (X.pn ++ pins) hz4 ⟨_, hd4⟩).run [] _ _ H' _ S4 (hyes rfl a na)) (fun f s6 hsp => ?_) (fun _ _ z => False.elim z)
          cases f with
          | next =>
            obtain ⟨σ6, H6, S6, q6⟩ := hsp
            exact ⟨_, _, S6.unsuite ok, q6⟩
          | brk =>
            obtain ⟨σ6, H6, S6, q6⟩ := hsp
            exact ⟨_, _, S6.unsuite ok, q6⟩
          | cont =>
            obtain ⟨σ6, H6, S6, q6⟩ := hsp
            exact ⟨_, _, S6.unsuite ok, q6⟩
          | ret u =>
            obtain ⟨v6, σ6, H6, S6, r6, q6⟩ := hsp
            exact ⟨_, _, _, S6.unsuite ok, r6, q6⟩
        | false =>
          show wpAny _ X.A (handleBy (.ref a) X.env hds2) _ _ _
          exact ih (hno rfl)
      | @as x n i c ts t0 b₀ suite np pos' hds2 l2 hc hi hln hsu imp r ih =>
        intro w
        obtain ⟨b, hb1, hyes, hno⟩ := w
        have hloc : Loc X.env.scope n := .inl hln
        refine wpAny_handleBy_cons (codeAny_handlers_test ?_) (by intro q; cases q)
        have LT : PySem.W.Looks (model X.prog X.w) h3 (typeOf (.ref a)) cls := fun A Q E s k q => wpAny_typeOf_ref (k _ _ he3) (by rw [hz3.1]; exact q)
        have LM := PySem.W.exm_one (M := model X.prog X.w) (J3.kIn) LT hb1
        have test : ∀ {Q : Value → Shared → Prop} {E : Value → Shared → Prop}, Q c { s' with heap := h3 } → wpAny (model X.prog X.w) (X.A.mark (some (.ref a))) (eval (.Name x np) X.env) Q E { s' with heap := h3 } := fun {Q E} q => by
          obtain ⟨hg, hdbg, hm | ⟨hm, hv, hnn⟩⟩ := hc
          · exact ld_glob (X := X.suite a ((a, oe3) :: (X.pn ++ pins))) S3 hg hm q hdbg
          · exact ld_blt (X := X.suite a ((a, oe3) :: (X.pn ++ pins))) S3 hg hm hv q hnn hdbg
        refine test (LM.here ?_)
        cases b with
        | true =>
          refine codeAny_handlers_suite_as ?_
          refine HandSPX.lands_againZ fl3 fun h4 fl4 up4 => ?_
          have J4 : Inv X pins σ' H' { s' with heap := h4 } := J.landed nb fl4.1 ((up.trans up3).trans up4) os ag
          obtain ⟨oe4, vs4, he4, hz4, hd4⟩ := fl4.there
          have S4 := J4.suite he4 hd4 na nL nF
          refine store_ok (X := X.suite a ((a, oe4) :: (X.pn ++ pins))) (v := .ref a) S4 hN hi hloc rfl (fun s5 S5 => ?_) (.inr hln)
          refine wpAny_mono ((hsu a oe4 cls d (X.pn ++ pins) hz4 ⟨_, hd4⟩).run [] s5 _ H' _ S5 (imp _ _ _ _ _ _ (hyes rfl a na))) (fun f s6 hsp => ?_) (fun _ _ z => False.elim z)
          have end_ : ∀ {σ6 : L2.St} {H6 : Hp} {Q : Shared → Prop}, Inv (X.suite a ((a, oe4) :: (X.pn ++ pins))) [] σ6 H6 s6 → (∀ s7, Inv X pins (σ6.set i none) H6 s7 → Q s7) →
              wpAny (model X.prog X.w) X.A (do bindName X.env n .none; unbindBehindTheSuite X.env n pos') (fun _ s7 => Q s7) X.xe s6 := fun {σ6 H6 Q} S6 hq => gone_ok (S6.unsuite ok) hN hi hln hq
          cases f with
          | next =>
            obtain ⟨σ6, H6, S6, q6⟩ := hsp
            exact end_ S6 fun s7 J7 => ⟨_, _, J7, q6⟩
          | brk =>
            obtain ⟨σ6, H6, S6, q6⟩ := hsp
            exact end_ S6 fun s7 J7 => ⟨_, _, J7, q6⟩
          | cont =>
            obtain ⟨σ6, H6, S6, q6⟩ := hsp
            exact end_ S6 fun s7 J7 => ⟨_, _, J7, q6⟩
          | ret u =>
            obtain ⟨v6, σ6, H6, S6, r6, q6⟩ := hsp
            exact end_ S6 fun s7 J7 => ⟨_, _, _, J7, r6, q6⟩
        | false =>
          show wpAny _ X.A (handleBy (.ref a) X.env hds2) _ _ _
          exact ih (hno rfl)
    exact go hh w
  · cases f with
    | next =>
      obtain ⟨σ', H', J', q⟩ := hsp
      exact wpAny_execs_nil ⟨σ', H', J'.ofTry ok, q⟩
    | brk =>
      obtain ⟨σ', H', J', q⟩ := hsp
      exact ⟨σ', H', J'.ofTry ok, q⟩
    | cont =>
      obtain ⟨σ', H', J', q⟩ := hsp
      exact ⟨σ', H', J'.ofTry ok, q⟩
    | ret u =>
      obtain ⟨v, σ', H', J', r, q⟩ := hsp
      exact ⟨v, σ', H', J'.ofTry ok, r, q⟩
end
abbrev Hd := Str × List (Str × Bool) × (Exn → Env → Fl)
def noEx : Fl → Fl
  | .ex _ _ => .st
  | r => r
theorem postS_w {K : PySem.W.Frag} {cA : Str → Addr} {W : WX} {k : Option Nat} {σ : L2.St} {H : Hp} {Z : ZS} {L : FP} {T : Ends} {o : Fl} (p : PostS K cA W k σ H Z L T (noEx o)) : PostS K cA WN k σ H Z L T o := by
  cases o <;> first | exact p | exact p.elim
def dCatch : List Hd → Exn → Env → Fl
  | [], e, ρ => .ex e ρ
  | (_, m, h) :: r, e, ρ => match m.lookup e.c with
    | some true => noEx (h e ρ)
    | some false => dCatch r e ρ
    | none => .st
def dTry (b : Env → Fl) (hs : List Hd) : Env → Fl := fun ρ => match b ρ with
  | .ex e ρ1 => dCatch hs e ρ1
  | r => r
section
variable (K : PySem.W.Frag) (cA : Str → Addr)
def tsD (k : Option Nat) (h : Exn → Env → Fl) : Addr → Value → Option Addr → TS := fun a cls d D σ H => ∃ ex Z L ρ, RelL K cA H Z ρ σ L ∧ Wf H Z L ∧ ExR cA H Z ex cls d ∧ PostS K cA WN k σ H Z L D (h ex ρ)
end
def TSE (cA : Str → Addr) (i : Nat) (a : Addr) (cls : Value) (d : Option Addr) (g : Exn → Option At) : TE := fun σ H Q => ∃ ex x Z, Wf H Z [] ∧ σ[i]? = some (some (V.ref a)) ∧ ExR cA H Z ex cls d ∧ g ex = some x ∧ ∀ H' Z', Wf H' Z' [] → Fr H Z [] H' Z' [] → Q x.v H'
def hRet (i : Nat) (g : Exn → Option At) : Exn → Env → Fl := fun ex ρ => match g ex with
  | some x => if i < ρ.length then .rt (.a x) (ρ.set i none) else .st
  | none => .st
def Matches (K : PySem.W.Frag) (cA : Str → Addr) (C : Str) (m : List (Str × Bool)) : Prop := ∀ c b, m.lookup c = some b → PySem.W.exmOne K (.ref (cA c)) (.ref (cA C)) = some b
theorem matches_nil {K : PySem.W.Frag} {cA : Str → Addr} {C : Str} : Matches K cA C [] := fun c b h => by cases h
theorem matches_cons {K : PySem.W.Frag} {cA : Str → Addr} {C x : Str} {b : Bool} {m : List (Str × Bool)} (h : PySem.W.exmOne K (.ref (cA x)) (.ref (cA C)) = some b) (r : Matches K cA C m) : Matches K cA C ((x, b) :: m) := fun c b' e => by
  by_cases hc : (c == x) = true
  · simp only [List.lookup, hc] at e
    cases e
    rw [beq_iff_eq.mp hc]
    exact h
  · simp only [List.lookup, (Bool.not_eq_true _).mp hc] at e
    exact r c b' e
inductive DHs (X : Cx) (cA : Str → Addr) (k : Option Nat) : List ExceptHandler → List Hd → Prop
  | nil : DHs X cA k [] []
  | cons {C : Str} {m : List (Str × Bool)} {f : Env → Fl} {b₀ : Stmt} {suite : List Stmt} {np pos' : Pos} {hds : List ExceptHandler} {l : List Hd} (hc : Names X C (.ref (cA C))) (hm : Matches X.K cA C m)
      (hsu : ∀ (a : Addr) (oe : Obj) (cls : Value) (d : Option Addr) (pn : List (Addr × Obj)), Zc cls d oe → (∃ vs, oe.data = .fields vs) → DSs (X.suite a ((a, oe) :: pn)) cA WN k f (b₀ :: suite)) (r : DHs X cA k hds l) :
      DHs X cA k (.ExceptHandler (some (.Name C np)) none (b₀ :: suite) pos' :: hds) ((C, m, fun _ => f) :: l)
  | as {C n : Str} {i : Nat} {m : List (Str × Bool)} {g : Exn → Option At} {e : Expr} {np pos' rp : Pos} {hds : List ExceptHandler} {l : List Hd} (hc : Names X C (.ref (cA C))) (hm : Matches X.K cA C m) (hi : X.N[i]? = some n) (hln : X.env.kindOf n = some .local)
      (hsu : ∀ (a : Addr) (oe : Obj) (cls : Value) (d : Option Addr) (pn : List (Addr × Obj)), Zc cls d oe → (∃ vs, oe.data = .fields vs) → PE (X.suite a ((a, oe) :: pn)) e (TSE cA i a cls d g)) (r : DHs X cA k hds l) :
      DHs X cA k (.ExceptHandler (some (.Name C np)) (some n) [.Return (some e) rp] pos' :: hds) ((C, m, hRet i g) :: l)
section
variable {X : Cx} {cA : Str → Addr} {k : Option Nat} {W : WX}
theorem DHs.hdx : ∀ {hds : List ExceptHandler} {l : List Hd}, DHs X cA k hds l → HdX X hds (l.map fun q => (.ref (cA q.1), tsD X.K cA k q.2.2))
  | _, _, .nil => .nil
  | _, _, .cons hc hm hsu r => by
    refine .cons hc (fun a oe cls d pn hz hf => PSs.imp (hsu a oe cls d pn hz hf) fun D σ H ⟨ex, Z, L, ρ, r1, w1, x1, p⟩ => ⟨Z, L, ρ, r1, w1, p⟩) r.hdx
  | _, _, .as (i := i) hc hm hi hln hsu r => by
    refine .as (i := i) hc hi hln (fun a oe cls d pn hz hf => pss_one (ps_ret (hsu a oe cls d pn hz hf))) (fun a cls d D σ H ⟨ex, Z, L, ρ, r1, w1, x1, p⟩ => ?_) r.hdx
    dsimp only at p
    unfold hRet at p
    split at p
    · rename_i x hx
      split at p
      · rename_i hil
        rw [← relL_len r1] at hil
        refine ⟨ex, x, Z, wf0 w1, by rw [List.getElem?_set_self hil], x1, hx, fun H' Z' w' F' => ?_⟩
        obtain ⟨r2, w2, F2⟩ := hand0 w1 r1 F' w'
        obtain ⟨L', hs, r3⟩ := relL_none i r2
        exact p _ σ H' Z' L' [] r3 ((w2.less (by simpa using hs)) : Wf H' Z' ([] ++ L')) ⟨rfl, rfl⟩ (F2.less fun y m => by simp at m ⊢; exact hs.subset m) Pin.refl
      · exact p.elim
    · exact p.elim
theorem ds_try {b : Env → Fl} {hs : List Hd} {body : List Stmt} {h₀ : ExceptHandler} {hds : List ExceptHandler} {pos : Pos} (hst : X.stack = X.env :: X.outer) (hf : X.env.frame = some X.env.locals) (hN : X.N.Nodup) (tk : Takes X W)
    (hb : ∀ (W' : WX) (pn : List (Addr × Obj)) (xe : Value → Shared → Prop), Takes (X.tr pn xe) W' → PassesOwn (model X.prog X.w) X.A X.env xe → DSs (X.tr pn xe) cA W' k b body) (hh : DHs X cA k (h₀ :: hds) hs) :
    DS X cA W k (dTry b hs) (.Try body (h₀ :: hds) [] [] pos) := by
  refine ds_of (ps_try_x (tb := fun W' => TSof X.K cA W' k b) hst hf hN tk hb hh.hdx) fun D σ H Z L ρ r w p => ?_
  refine ⟨Z, L, ρ, r, w, ?_⟩
  unfold dTry at p
  cases hbr : b ρ with
  | st => rw [hbr] at p; exact p
  | nx ρ1 => rw [hbr] at p; exact p
  | bk ρ1 => rw [hbr] at p; exact p
  | ct ρ1 => rw [hbr] at p; exact p
  | rt d ρ1 => rw [hbr] at p; exact p
  | ex e ρ1 =>
    rw [hbr] at p
    dsimp only at p
    intro cls d σ1 H1 Z1 L1 r1 w1 x1 F1 q1
    have p1 := postS_tr F1 q1 p
    clear p hb hbr
    generalize hE : h₀ :: hds = E at hh
    clear hE
    induction hh with
    | nil => exact p1 cls d σ1 H1 Z1 L1 r1 w1 x1 Fr.refl Pin.refl
    | cons hc hm hsu r ih =>
      unfold dCatch at p1
      split at p1
      · rename_i hl
        exact ⟨true, by rw [x1.1]; exact hm _ _ hl, fun _ a ha => ⟨e, Z1, L1, ρ1, r1, w1, x1, postS_w p1⟩, fun z => (nomatch z)⟩
      · rename_i hl
        exact ⟨false, by rw [x1.1]; exact hm _ _ hl, fun z => (nomatch z), fun _ => ih p1⟩
      · exact p1.elim
    | as hc hm hi hln hsu r ih =>
      unfold dCatch at p1
      split at p1
      · rename_i hl
        exact ⟨true, by rw [x1.1]; exact hm _ _ hl, fun _ a ha => ⟨e, Z1, L1, ρ1, r1, w1, x1, postS_w p1⟩, fun z => (nomatch z)⟩
      · rename_i hl
        exact ⟨false, by rw [x1.1]; exact hm _ _ hl, fun z => (nomatch z), fun _ => ih p1⟩
      · exact p1.elim
end
end DL
namespace DL
open PySem L2 PyProof.Rows NdefX
def sF (C f : Str) : Exn → Option At := fun ex => if ex.c = C then ex.fs.lookup f else none
section
variable {X : Cx} {cA : Str → Addr} {i : Nat} {a : Addr} {cls : Value} {d : Option Addr} {g h : Exn → Option At} {e e2 : Expr} {pos : Pos}
end
abbrev FnC : Type := Option (Str × Str × Arguments × FuncBody × Scope × Addr × Addr)
def fnC (K : PySem.W.Frag) (p : Str × Option Str) : FnC := match K.lookup (He.fAd K p) with
  | some ⟨_, _, .func fd, _⟩ => some (fd.name, fd.qualname, fd.params, fd.body, fd.scope, fd.globals, fd.builtins)
  | _ => none
def oexB (K : PySem.W.Frag) (C : Addr) : Bool := (match K.lookup C with
  | some ⟨.type "type", _, .cls cd, sl⟩ => (match cd.mro, sl.toList with
    | .ref C' :: bm, [_, _, _, _, some (.builtin n), _] => C' == C && (n == "ValueError.__new__" && (!cd.hasDel && (cd.hasDict && PySem.HandSPX.refsVE bm)))
    | _, _ => false)
  | _ => false) && (decide (PySem.W.findIn K (.ref C) "__setattr__" = some (some (.builtin "object.__setattr__"))) && (decide (PySem.W.subIn K (.ref C) (.type "BaseException") = some true) && (decide (PySem.W.typeIn K (.ref C) = some (.type "type")) && PySem.W.keepIn K (.ref C))))
theorem oexB_ok {K : PySem.W.Frag} {C : Addr} (h : oexB K C = true) : OexC K C := by
  unfold oexB at h
  rw [Bool.and_eq_true] at h
  obtain ⟨h0, h⟩ := h
  simp only [Bool.and_eq_true, decide_eq_true_eq] at h
  obtain ⟨h1, h2, h3, h4⟩ := h
  refine ⟨?_, h1, h2, h3, h4⟩
  split at h0
  · rename_i dd cd sl ho
    split at h0
    · rename_i C' bm k0 k1 k2 k3 n k5 hm hs
      simp only [Bool.and_eq_true, beq_iff_eq, Bool.not_eq_true'] at h0
      obtain ⟨rfl, rfl, hdel, hdict, hve⟩ := h0
      obtain ⟨nm, bs, mro, ns, qn, hd, sn, sub, ab, col, del⟩ := cd
      dsimp only at hm hdel hdict
      subst hm hdel hdict
      have hsl : sl = #[k0, k1, k2, k3, some (.builtin "ValueError.__new__"), k5] := by
        obtain ⟨l⟩ := sl
        simp only at hs
        rw [hs]
      subst hsl
      exact ⟨nm, qn, ns, bs, bm, sn, sub, ab, col, dd, k0, k1, k2, k3, k5, ho, hve⟩
    · cases h0
  · cases h0
def supB (file : Str) (K : PySem.W.Frag) (C fI : Addr) (f : Str) : Bool := oexB K C && (decide (PySem.W.findIn K (.ref C) "__init__" = some (some (.ref fI))) && (decide (PySem.W.typeIn K (.ref fI) = some (.type "function")) && (decide (PySem.W.findIn K (.ref C) f = some none) &&
  ((PySem.W.clsIn K C).isSome && (decide (PySem.W.mroIn K C (.ref C) = some true) && (decide (PySem.W.ks_superIn K C C "__init__" = some (some (.builtin "ValueError.__init__"))) && (decide (PySem.W.subIn K (.ref C) (.type "ValueError") = some true) &&
  (decide (PySem.W.nsIn K cStatics "thirdparty.any" = some none) && (match K.lookup fI with
    | some ⟨_, _, .func fd, _⟩ => (match fd.defaults, fd.kwdefaults, fd.annotations, fd.code, fd.closure with
      | .none, .none, none, .ref c, [(x, cc)] => PySem.W.codeIn K (.ref c) fd.qualname && (decide (x = "__class__") && ((match K.lookup cc with
        | some ⟨_, _, .cell (some (.ref D)), _⟩ => D == C
        | _ => false) && (match K.lookup c with
        | some ⟨_, _, .fields vs, _⟩ => (match (vs[2]? : Option Value) with
          | some (Value.str z _) => file == z
          | _ => false)
        | _ => false)))
      | _, _, _, _, _ => false)
    | _ => false)))))))))
theorem supB_ok {P : Program} {file : Str} {K : PySem.W.Frag} {C : Addr} {f : Str} {p : Str × Option Str} {name qual : Str} {params : Arguments} {body : List Stmt} {scope : Scope} (h : supB file K C (He.fAd K p) f = true) (e : fnC K p = some (name, qual, params, .stmts body, scope, mainGlobals, builtinsNs))
    (hfile : P.main.file = file) (htop : (P.main.scope.names.lookup ("super" : Str)).isSome = false) :
    ∃ fd cl c, SupC P K C (He.fAd K p) f ∧ SupF P K C (He.fAd K p) fd ⟨name, qual, params, body, scope, cl, c⟩ := by
  unfold supB at h
  simp only [Bool.and_eq_true, decide_eq_true_eq] at h
  obtain ⟨h0, h1, h2, h3, h4, h5, h6, h7, h8, h9⟩ := h
  have ox := oexB_ok h0
  obtain ⟨cd, hcd⟩ := Option.isSome_iff_exists.mp h4
  have SC : SupC P K C (He.fAd K p) f := ⟨ox, ox.kC, h1, h2, h3, ⟨cd, hcd, h5⟩, h6, h7, h8, htop⟩
  unfold fnC at e
  cases q : K.lookup (He.fAd K p) with
  | none => rw [q] at h9; cases h9
  | some o =>
    obtain ⟨oc, od, dt, osl⟩ := o
    rw [q] at h9 e
    cases dt with
    | func fd =>
      obtain ⟨n1, n2, n3, n4, n5, n6, n7, n8, n9, n10, n11, n12, n13, n14, n15⟩ := fd
      dsimp only at h9 e
      simp only [Option.some.injEq, Prod.mk.injEq] at e
      obtain ⟨e1, e2, e3, e4, e5, e6, e7⟩ := e
      subst e1 e2 e3 e4 e5 e6 e7
      split at h9
      · rename_i c x cc
        simp only [Bool.and_eq_true, decide_eq_true_eq] at h9
        obtain ⟨k1, rfl, k3, k4⟩ := h9
        refine ⟨_, [("__class__", cc)], c, SC, ⟨oc, od, n10, n11, n14, osl, rfl, q⟩, k1, ?_, ?_⟩
        · split at k4
          · rename_i a1 a2 vs a3 hc
            split at k4
            · rename_i z tf hz
              exact ⟨_, _, _, _, z, tf, hc, hz, by rw [hfile]; exact k4⟩
            · cases k4
          · cases k4
        · split at k3
          · rename_i a1 a2 D a3 hc
            have e := beq_iff_eq.mp k3
            subst e
            exact ⟨cc, _, _, _, rfl, hc⟩
          · cases k3
      · cases h9
    | _ => cases h9
structure ExD where
  cls : Str
  fld : Str
  name : Str
  qual : Str
  params : Arguments
  body : List Stmt
  scope : Scope
def ExD.val (d : ExD) : FnC := some (d.name, d.qual, d.params, .stmts d.body, d.scope, mainGlobals, builtinsNs)
def ExD.ok (file : Str) (K : PySem.W.Frag) (d : ExD) : Bool := supB file K (He.ga K d.cls) (He.fAd K (d.cls, some "__init__")) d.fld
abbrev Fy := PySem.W.Frag → Bool
abbrev AlY := He.AlD × Bool × List FnC
def obsY (file : Str) (fa : List He.Fa) (fn : List He.DefD) (es : List ExD) (ys : List Fy) (K : PySem.W.Frag) : AlY := (He.obsD fa fn K, (ys.all fun y => y K) && es.all fun d => d.ok file K, es.map fun d => fnC K (d.cls, some "__init__"))
def valY (fn : List He.DefD) (es : List ExD) : AlY := (He.valD fn, true, es.map ExD.val)
def frY (g : Addr → Option Obj) (n : Nat) : PySem.W.Frag := He.frG g (cStatics :: He.asD g n)
def obsYG (n : Nat) (file : Str) (fa : List He.Fa) (fn : List He.DefD) (es : List ExD) (ys : List Fy) (g : Addr → Option Obj) : AlY := obsY file fa fn es ys (frY g n)
def SaysY (file : Str) (fa : List He.Fa) (fn : List He.DefD) (es : List ExD) (ys : List Fy) (K : PySem.W.Frag) : Prop := obsY file fa fn es ys K = valY fn es
def hookY (n : Nat) (file : Str) (fa : List He.Fa) (fn : List He.DefD) (es : List ExD) (ys : List Fy) : PySem.W.Hook where
  α := AlY
  obs := fun s => obsYG n file fa fn es ys s.heap.get?
  val := fun _ => valY fn es
  says := fun _ h => ∃ K : PySem.W.Frag, K.In h ∧ SaysY file fa fn es ys K
  of := fun _ _ e => ⟨_, He.frG_in, e⟩
  keeps := fun _ _ _ ⟨K, hK, c⟩ k => ⟨K, PySem.W.Frag.In.keeps hK k, c⟩
theorem obsYG_eq {n : Nat} {file : Str} {fa : List He.Fa} {fn : List He.DefD} {es : List ExD} {ys : List Fy} {g : Addr → Option Obj} {s : Shared} (h : ∀ a, g a = s.heap.get? a) : obsYG n file fa fn es ys g = (hookY n file fa fn es ys).obs s := by
  have e : g = s.heap.get? := funext h
  rw [e] <;> rfl
section
variable {file : Str} {fa : List He.Fa} {fn : List He.DefD} {es : List ExD} {ys : List Fy} {K : PySem.W.Frag}
theorem SaysY.d (h : SaysY file fa fn es ys K) : He.SaysD fa fn K := congrArg (fun z : AlY => z.1) h
theorem SaysY.y (h : SaysY file fa fn es ys K) (i : Nat) {y : Fy} (e : ys[i]? = some y) : y K = true := by
  have c : ((ys.all fun y => y K) && es.all fun d => d.ok file K) = true := congrArg (fun z : AlY => z.2.1) h
  rw [Bool.and_eq_true] at c
  exact List.all_eq_true.mp c.1 y (List.mem_of_getElem? e)
theorem SaysY.e (h : SaysY file fa fn es ys K) (i : Nat) {d : ExD} (e : es[i]? = some d) {P : Program} (hfile : P.main.file = file) (htop : (P.main.scope.names.lookup ("super" : Str)).isSome = false) :
    ∃ fd cl c, SupC P K (He.ga K d.cls) (He.fAd K (d.cls, some "__init__")) d.fld ∧ SupF P K (He.ga K d.cls) (He.fAd K (d.cls, some "__init__")) fd ⟨d.name, d.qual, d.params, d.body, d.scope, cl, c⟩ := by
  have c : ((ys.all fun y => y K) && es.all fun d => d.ok file K) = true := congrArg (fun z : AlY => z.2.1) h
  rw [Bool.and_eq_true] at c
  have c2 := List.all_eq_true.mp c.2 d (List.mem_of_getElem? e)
  have c3 : es.map (fun d => fnC K (d.cls, some "__init__")) = es.map ExD.val := congrArg (fun z : AlY => z.2.2) h
  have e2 : (es.map fun d => fnC K (d.cls, some "__init__"))[i]? = (es.map ExD.val)[i]? := by rw [c3]
  rw [List.getElem?_map, List.getElem?_map, e] at e2
  exact supB_ok c2 (Option.some.inj e2) hfile htop
end
theorem exS_of {P : Program} {w : World} {K : PySem.W.Frag} {mg : Str → Option Value} {base : Heap} {C fI : Addr} {f p : Str} {ok : At → Bool} {okV : V → Bool} {fd : FuncData} {F : NF} {e : Expr} {te : TE} (T : SupC P K C fI f) (TF : SupF P K C fI fd F) (Wd : SupW F p f e) (hmg : mg "super" = none)
    (he : ∀ (A : Around) (outer : List PySem.Env) (s0 : Shared) (H0 : Hp) (E0 : XK), PE (scx P w K mg base p F fI A outer s0 H0 E0) e te)
    (hte : ∀ (σ : L2.St) (H : Hp) (x : V), σ[1]? = some (some x) → okV x = true → te σ H fun v H1 => H1 = H ∧ [v].length = 1)
    (hb : ∀ (doc pm ctv : Value) (us : List Value), us.length = 2 → bindArgs (F.fd doc pm ctv) ⟨us, []⟩ = pure ((["self", p] : List Str).zip us)) (hok : ∀ x : At, ok x = true → okV x.v = true) : ExS P w K mg base C f ok := by
  obtain ⟨oc, od, doc, pm, ctv, osl, efd, lk⟩ := TF.ex
  refine ⟨fI, fd, p, okV, T, sup_ok T TF Wd hmg he hte, ?_, hok⟩
  subst efd
  exact Binds.all fun us hl => hb doc pm ctv us hl
end DL
namespace DL
open PySem L2 PyProof.Rows NdefX
def supBody (e : Expr) (p f : Str) (p0 p1 p2 p3 p4 q1 q2 q3 q4 : Pos) : List Stmt := [.Expr (.Call (.Attribute (.Call (.Name "super" p0) [] [] p1) "__init__" p2) [e] [] p3) p4, .Assign [.Attribute (.Name "self" q1) f q2] (.Name p q3) q4]
def sup1 (p f : Str) : List Stmt → Bool
  | [.Expr (.Call (.Attribute (.Call (.Name a0 _) [] [] _) a1 ap) [.BinOp (.Constant (.str t) _ _) .Add (.Name a2 _) _] [] cp) _, .Assign [.Attribute (.Name a3 _) a4 _] (.Name a5 _) _] => a0 == "super" && (a1 == "__init__" && (a2 == p && (a3 == "self" && (a4 == f && (a5 == p && (ap.endLine == cp.line && decide (t.length ≤ 1000)))))))
  | _ => false
theorem sup1_ok {p f : Str} {b : List Stmt} (h : sup1 p f b = true) : ∃ t j r1 r2 r3 p0 p1 p2 p3 p4 q1 q2 q3 q4, b = supBody (.BinOp (.Constant (.str t) j r1) .Add (.Name p r2) r3) p f p0 p1 p2 p3 p4 q1 q2 q3 q4 ∧ (p2.endLine == p3.line) = true ∧ t.length ≤ 1000 := by
  unfold sup1 at h
  split at h
  · simp only [Bool.and_eq_true, decide_eq_true_eq] at h
    obtain ⟨h1, h2, h3, h4, h5, h6, h7, h8⟩ := h
    have h1 := beq_iff_eq.mp h1
    have h2 := beq_iff_eq.mp h2
    have h3 := beq_iff_eq.mp h3
    have h4 := beq_iff_eq.mp h4
    have h5 := beq_iff_eq.mp h5
    have h6 := beq_iff_eq.mp h6
    subst h1 h2 h3 h4 h5 h6
    exact ⟨_, _, _, _, _, _, _, _, _, _, _, _, _, _, rfl, h7, h8⟩
  · cases h
def okStr : At → Bool
  | .str s => decide (s.length ≤ 1000)
  | _ => false
def okStrV : V → Bool
  | .str s => decide (s.length ≤ 1000)
  | _ => false
theorem sup_ev {o : Expr} {e : Expr} {env : PySem.Env} {p2 p3 : Pos} (hq : (p2.endLine == p3.line) = true) (h1 : (methodCallForm 1 (backTo p3 (starEach [e] env)) []) = true) (h2 : backToKw p3 (keywordEach [] env) = []) : ∃ pl : Sem Bool, eval (.Call (.Attribute o "__init__" p2) [e] [] p3) env = (do
      let ov ← attributeBase o "__init__" env (eval o env)
      standAt p2.atName
      let (f, first) ← holding [ov] (getMethod ov "__init__" pl)
      callWith p3 f first (backTo p3 (starEach [e] env)) []) := by
  refine ⟨(do return (← importBound o env).getD true), ?_⟩
  have e0 : eval (.Call (.Attribute o "__init__" p2) [e] [] p3) env = (do
    let ov ← attributeBase o "__init__" env (eval o env)
    standAt p2.atName
    methodCall o "__init__" p2 p3 env ov 1 (backTo p3 (starEach [e] env)) (backToKw p3 (keywordEach [] env))) := rfl
  rw [e0, h2]
  unfold methodCall calleeOf methodCallPos
  rw [h1, hq]
  simp
theorem supW_of {F : NF} {p f : Str} {e : Expr} {p0 p1 p2 p3 p4 q1 q2 q3 q4 : Pos} (hsc : nscB ["self", p, "__class__"] ["self", p] ["__class__"] F.scope = true) (hself : (F.params.posonlyargs ++ F.params.args).head?.map (·.arg) = some "self") (hsu : F.scope.names.lookup ("super" : Str) = some .globalImplicit)
    (hd : (p == ("__debug__" : Str)) = false ∧ (p == ("__classdict__" : Str)) = false) (hb : F.body = supBody e p f p0 p1 p2 p3 p4 q1 q2 q3 q4) (st : ∀ fI L : Addr, starEach [e] (envF F fI L) = (false, eval e (envF F fI L)) :: starEach [] (envF F fI L))
    (hl : (p2.endLine == p3.line) = true) (ev : ∀ fI L : Addr, (p2.endLine == p3.line) = true → ∃ pl : Sem Bool, eval (.Call (.Attribute (.Call (.Name "super" p0) [] [] p1) "__init__" p2) [e] [] p3) (envF F fI L) = (do
      let ov ← attributeBase (.Call (.Name "super" p0) [] [] p1) "__init__" (envF F fI L) (eval (.Call (.Name "super" p0) [] [] p1) (envF F fI L))
      standAt p2.atName
      let (f, first) ← holding [ov] (getMethod ov "__init__" pl)
      callWith p3 f first (backTo p3 (starEach [e] (envF F fI L))) [])) : SupW F p f e where
  sc := nscope_by hsc
  self_ := hself
  su := hsu
  body := ⟨p0, p1, p2, p3, p4, q1, q2, q3, q4, hb, fun fI L => ev fI L hl⟩
  dbg := hd
  st := st
  sw := fun fI L p0 p1 p2 p3 p4 => by rfl
  sw2 := fun fI L q1 q2 q3 q4 => by rfl
section
variable {P : Program} {w : World} {K : PySem.W.Frag} {mg : Str → Option Value} {base : Heap} {C fI : Addr} {f p : Str} {fd : FuncData} {F : NF}
theorem exS_str (T : SupC P K C fI f) (TF : SupF P K C fI fd F) (hmg : mg "super" = none) (hbody : sup1 p f F.body = true) (hsc : nscB ["self", p, "__class__"] ["self", p] ["__class__"] F.scope = true) (hself : (F.params.posonlyargs ++ F.params.args).head?.map (·.arg) = some "self") (hsu : F.scope.names.lookup ("super" : Str) = some .globalImplicit)
    (hd : (p == ("__debug__" : Str)) = false ∧ (p == ("__classdict__" : Str)) = false)
    (hb : ∀ (doc pm ctv : Value) (us : List Value), us.length = 2 → bindArgs (F.fd doc pm ctv) ⟨us, []⟩ = pure ((["self", p] : List Str).zip us)) : ExS P w K mg base C f okStr := by
  obtain ⟨t, j, r1, r2, r3, p0, p1, p2, p3, p4, q1, q2, q3, q4, hbd, hln, hl⟩ := sup1_ok hbody
  have Wd := supW_of hsc hself hsu hd hbd (fun fI L => by rfl) hln (fun fI L hq => sup_ev hq rfl rfl)
  refine exS_of (okV := okStrV) T TF Wd hmg (fun A outer s0 H0 E0 => pe_op op_add_str pe_str (pe_var (i := 1) rfl (.inl (Wd.sc.par p (by simp))) hd.1 hd.2)) (fun σ H x hσ hx => ?_) hb ?_
  · refine ⟨x, hσ, ?_⟩
    unfold okStrV at hx
    split at hx
    · rename_i s
      have hx := of_decide_eq_true hx
      exact ⟨t, s, rfl, rfl, by rw [sizeLine_eq]; omega, rfl, rfl⟩
    · cases hx
  · intro x hx
    cases x <;> first | exact hx | cases hx
end
end DL
namespace DL
open PySem L2 PyProof.Rows
structure KitN (K : PySem.W.Frag) (C : Addr) : Prop where
  kit : ∀ t ∈ tyAll, PySem.W.kitOne K (.type t) (.ref C) = some false
  nf : ∀ t ∈ tyAll, PySem.W.notFirst K C (.type t) = true
def kitNB (K : PySem.W.Frag) (C : Addr) : Bool := tyAll.all fun t => decide (PySem.W.kitOne K (.type t) (.ref C) = some false) && PySem.W.notFirst K C (.type t)
theorem kitNB_ok {K : PySem.W.Frag} {C : Addr} (h : kitNB K C = true) : KitN K C := by
  unfold kitNB at h
  rw [List.all_eq_true] at h
  refine ⟨fun t ht => ?_, fun t ht => ?_⟩
  · have := h t ht
    rw [Bool.and_eq_true] at this
    exact of_decide_eq_true this.1
  · have := h t ht
    rw [Bool.and_eq_true] at this
    exact this.2
def gIsiA (C : Str) : D → Option D := fun d => match d with
  | .n (.ins C' _) _ _ => if C' = C then some (.bl true) else none
  | _ => match tyN d with
    | some _ => some (.bl false)
    | none => none
theorem vu_isiA {K : PySem.W.Frag} {cA : Str → Addr} {C : Str} (h : ClsX K (cA C)) (hn : KitN K (cA C)) : VU K cA (fun v H Q => rIsi K [v, .ref (cA C)] H Q) (gIsiA C) := by
  refine ⟨@fun d1 d v1 H Z f1 Q h1 w hg q => ?_⟩
  unfold gIsiA at hg
  split at hg
  · rename_i C' fs o xs
    exact (vu_isiC h).run h1 w (by unfold gIsiC; exact hg) q
  · split at hg
    · rename_i t e
      cases hg
      obtain ⟨ht, ty⟩ := tyN_ok e h1
      exact ⟨_, _, _, .ref (cA C), false, rfl, .own _, ty, hn.kit t ht, q _ H Z [] ⟨rfl, rfl⟩ w Fr.refl⟩
    · cases hg
section
variable {X : Cx} {cA : Str → Addr} {W : WX} {fa fb : Env → Out D} {a b : Expr} {pos : Pos}
theorem de_isiA {x C : Str} {p q : Pos} (h : ClsX X.K (cA C)) (hn : KitN X.K (cA C)) (hg : Gl X "isinstance") (hm : X.mg "isinstance" = none) (hg2 : Gl X x) (hm2 : X.mg x = some (.ref (cA C))) (ha : DP X cA W fa a) (hd2 : (x == ("__debug__" : Str)) = false := by kernel_rfl)
    (hs1 : starEach [a, .Name x q] X.env = (false, eval a X.env) :: starEach [.Name x q] X.env := by kernel_rfl) (hs2 : starEach [.Name x q] X.env = (false, eval (.Name x q) X.env) :: starEach [] X.env := by kernel_rfl) (hpl : (backTo pos (starEach [.Name x q] X.env)).any (·.1) = false := by kernel_rfl) :
    DE X cA W (dU (gIsiA C) fa) (.Call (.Name "isinstance" p) [a, .Name x q] [] pos) :=
  PE.imp (pe_callB call_isi hg hm PyProof.Rows.boot_isinstance (pa_cons ha (pa_cons (pe_glob (v := .ref (cA C)) hg2 hm2 rfl hd2) pa_nil hs2) hs1) (by decide) (by decide) hs1 hpl) (te_un (vu_isiA h hn))
end
section
variable {X : Cx} {cA : Str → Addr} {C : Str} {f : Addr} {fd : FuncData} {ps : List Str} {k : Nat} {kio : Option Nat} {F : List D → FR}
end
end DL
namespace DL
open PySem L2 PyProof.Rows
section
variable {X : Cx} {cA : Str → Addr} {W : WX} {C : Str} {f : Addr} {fd : FuncData} {ps : List Str} {k : Nat} {kio : Option Nat} {F : List D → FR} {fa fb : Env → Out D} {a b : Expr} {pos apos : Pos}
def gLenO (C : Str) (F : List D → FR) : D → Option D
  | .n (.ins C1 fs1) false xs1 => if C1 = C ∧ isFL xs1 = true then (match F [.n (.ins C1 fs1) false xs1] with
    | .rt (.a (.int n)) _ => if 0 ≤ n ∧ n < 1000000 then some (.int n) else none
    | _ => none) else none
  | d => gLen d
def firstEq (x : D) : List D → Option Nat
  | [] => none
  | y :: ys => if eqD y x = true then some 0 else (firstEq x ys).map (· + 1)
def gIndexL (l x : D) : Option D := match l with
  | .n .lst _ ys => if pD 60 x = true ∧ pDL 60 ys = true then (firstEq x ys).map fun j => D.int (j : Nat) else none
  | _ => none
theorem firstEq_ok {x : D} : ∀ {ys : List D} {j : Nat}, firstEq x ys = some j → (∃ y, ys[j]? = some y ∧ eqD y x = true) ∧ ∀ m y, m < j → ys[m]? = some y → eqD y x = false
  | [], j, h => by cases h
  | y :: ys, j, h => by
    unfold firstEq at h
    split at h
    · rename_i e
      cases h
      exact ⟨⟨y, rfl, e⟩, fun m y' hm => by omega⟩
    · rename_i e
      cases hq : firstEq x ys with
      | none => rw [hq] at h; cases h
      | some i =>
        rw [hq] at h
        cases h
        obtain ⟨⟨z, h1, h2⟩, h3⟩ := firstEq_ok hq
        refine ⟨⟨z, by simpa using h1, h2⟩, fun m y' hm hy => ?_⟩
        cases m with
        | zero =>
          simp at hy
          subst hy
          simpa using e
        | succ m => exact h3 m y' (Nat.lt_of_succ_lt_succ hm) (by simpa using hy)
theorem pyL_get : ∀ {ys : List D} {j : Nat}, (pyL ys)[j]? = (ys[j]?).map pyD
  | [], j => by simp [pyL]
  | y :: ys, 0 => by simp [pyL]
  | y :: ys, j + 1 => by simpa [pyL] using pyL_get (ys := ys) (j := j)
theorem pDL_get {n : Nat} : ∀ {ys : List D} {j : Nat} {y : D}, pDL n ys = true → ys[j]? = some y → pD n y = true
  | [], j, y, _, h => by simp at h
  | z :: ys, j, y, h, e => by
    have h : (pD n z && pDL n ys) = true := by simpa only [pDL] using h
    rw [Bool.and_eq_true] at h
    cases j with
    | zero => simp at e; subst e; exact h.1
    | succ j => exact pDL_get h.2 (by simpa using e)
def dIndexL (fa fb : Env → Out D) : Env → Out D := fun ρ => match fa ρ with
  | .ok (.n .lst o xs) ρ1 => (match fb ρ1 with
    | .ok d2 ρ2 => (match gIndexL (.n .lst o xs) d2 with
      | some d => .ok d ρ2
      | none => .st)
    | .ex e ρ2 => .ex e ρ2
    | .st => .st)
  | .ok _ _ => .st
  | .ex e ρ1 => .ex e ρ1
  | .st => .st
end
def dRngD (f g : Env → Out D) : Env → Out (List D) := fun ρ => match f ρ with
  | .ok (.a (.int i)) ρ1 => (match g ρ1 with
    | .ok (.a (.int j)) ρ2 => if (-1000000 ≤ i ∧ i ≤ 1000000) ∧ -1000000 ≤ j ∧ j ≤ 1000000 then .ok (intsC i (-1) (i - j).toNat) ρ2 else .st
    | .ok _ _ => .st
    | .ex e ρ2 => .ex e ρ2
    | .st => .st)
  | .ok _ _ => .st
  | .ex e ρ1 => .ex e ρ1
  | .st => .st
section
variable {X : Cx} {cA : Str → Addr} {W : WX} {f g : Env → Out D} {e e2 tg : Expr} {p p2 p3 pos : Pos}
end
end DL
namespace DL
open PySem PySem.Spec PySem.W PyProof.Rows L2
section
variable {prog : Program} {w : World} {A : Around} {E : Value → Shared → Prop} {s : Shared}
theorem adjust_rev (n : Nat) : Builtin.Slice.sliceAdjust none none (-1) (n : Int) = ((n : Int) - 1, -1) := by
  unfold Builtin.Slice.sliceAdjust
  rfl
theorem places_rev (n : Nat) : Builtin.Slice.slicePlaces ((n : Int) - 1) (-1) (-1) = n := by
  unfold Builtin.Slice.slicePlaces
  have h1 : ¬ ((-1 : Int) > 0) := by omega
  simp only [h1, if_false]
  first
  | omega
  | (split <;> omega)
  | (simp; split <;> omega)
theorem applied_rev {sl : Addr} {vl vu vs : Value} {n : Nat} {Q : Int × Int × Nat → Shared → Prop} (hs : s.heap.IsSliceOf sl vl vu vs) (pl : IsPart vl none) (pu : IsPart vu none) (ps : IsPart vs (some (-1)))
    (h : Q ((n : Int) - 1, -1, n) s) : wpAny (model prog w) A (Builtin.Slice.sliceApplied (.ref sl) (pure (n : Int))) Q E s := by
  obtain ⟨os, hos, hcs, hds⟩ := id hs
  unfold Builtin.Slice.sliceApplied Builtin.Slice.sliceFields
  refine wpAny_bind (wpAny_bind (wpAny_field hos hds (x := vl) rfl (wpAny_bind (wpAny_field hos hds (x := vu) rfl (wpAny_bind (wpAny_field hos hds (x := vs) rfl (wpAny_pure ?_)))))))
  refine wpAny_bind (HT.slicePart_ ps ?_)
  show wpAny _ _ (if ((-1 : Int) == 0) = true then _ else _) _ _ s
  rw [if_neg (by decide)]
  refine wpAny_bind (HT.slicePart_ pl (wpAny_bind (HT.slicePart_ pu (wpAny_bind (wpAny_pure ?_)))))
  show wpAny _ _ (match Builtin.Slice.sliceAdjust none none (-1) (n : Int) with | (lo, hi) => pure (lo, (-1 : Int), Builtin.Slice.slicePlaces lo hi (-1))) _ _ s
  rw [adjust_rev n]
  show wpAny _ _ (pure ((n : Int) - 1, (-1 : Int), Builtin.Slice.slicePlaces ((n : Int) - 1) (-1) (-1))) _ _ s
  rw [places_rev]
  exact wpAny_pure h
theorem fm_congr {α β : Type} {f g : α → Option β} : ∀ {l : List α}, (∀ x ∈ l, f x = g x) → l.filterMap f = l.filterMap g
  | [], _ => rfl
  | x :: l, h => by
    rw [List.filterMap_cons, List.filterMap_cons, h x (by simp), fm_congr (l := l) fun y hy => h y (List.mem_cons_of_mem _ hy)]
theorem pick_rev (xs : Array Value) : ((List.range xs.size).filterMap fun (m : Nat) => xs[(((xs.size : Int) - 1) + (m : Int) * -1).toNat]?).toArray = xs.toList.reverse.toArray := by
  have e : (List.range xs.size).filterMap (fun (m : Nat) => xs[(((xs.size : Int) - 1) + (m : Int) * -1).toNat]?) = ((List.range xs.size).map fun k => xs.size - 1 - k).filterMap (xs[·]?) := by
    rw [List.filterMap_map]
    apply fm_congr
    intro m hm
    have := List.mem_range.mp hm
    show xs[_]? = xs[xs.size - 1 - m]?
    congr 1
    omega
  rw [e, krv_range, List.filterMap_reverse, krv_all]
theorem getItem_tuple_rev {t sl : Addr} {items : Array Value} {vl vu vs : Value} {Q : Value → Shared → Prop} (ht : IsTup s.heap t items) (hs : s.heap.IsSliceOf sl vl vu vs) (pl : IsPart vl none) (pu : IsPart vu none) (ps : IsPart vs (some (-1)))
    (h : Q (.ref s.heap.objs.size) { s with heap := s.heap.push { cls := .type "tuple", data := .seq items.toList.reverse.toArray } })
    (hsz : items.size ≤ sizeLine) : wpAny (model prog w) A (getItem (.ref t) (.ref sl)) Q E s := by
  have htake : sizeOk (.seq items.toList.reverse.toArray) := by
    show items.toList.reverse.toArray.size ≤ sizeLine
    rw [List.size_toArray, List.length_reverse, Array.length_toList]
    exact hsz
  obtain ⟨os, hos, hcs, hds⟩ := id hs
  have hTs : s.TypeIs (.ref sl) "slice" := ⟨os, hos, hcs⟩
  unfold getItem
  try with_reducible refine wpAny_holding ?_
  first | refine wpAny_bind (wpAny_pure ?_) | skip
  refine wpAny_bind (wpAny_sequenceKey ht.typeIs (by decide) ?_)
  refine wpAny_bind (wpAny_callSpecial?_slot (name := Str.ofString "__getitem__") ht.typeIs PyProof.Rows.slot_tuple_getitem
    (wpAny_call_entry PyProof.Rows.slot_tuple_getitem ht.typeIs PyProof.Rows.entry_tuple_getitem ?_ (PyProof.Rows.args_tuple_getitem _ _)))
  show wpAny _ _ (Builtin.Tuple.tupleItemsOf (.ref t) >>= _) _ _ s
  refine wpAny_bind (PyProof.Rows.tupleItemsOf_ ht ?_)
  refine wpAny_bind (wpAny_typeOf hTs ?_)
  rw [if_pos (by decide)]
  refine wpAny_bind (applied_rev hs pl pu ps ?_)
  have hno : ¬ ((((items.size : Int) - 1 == 0) && (-1 : Int) == 1 && (items.size == items.size)) = true) := by
    intro q
    rw [Bool.and_eq_true, Bool.and_eq_true] at q
    have := q.1.2
    revert this
    decide
  show wpAny _ _ (if (((items.size : Int) - 1 == 0) && (-1 : Int) == 1 && (items.size == items.size)) = true then _ else _) _ _ s
  rw [if_neg hno, pick_rev]
  first
    | exact wpAny_bind (m := Builtin.Tuple.tupleExact _) (wpAny_newObj_type (wpAny_pure ⟨_, rfl, wpAny_pure h⟩) htake)
    | exact wpAny_bind (m := Builtin.Tuple.tupleExact _) (wpAny_newObj_type (wpAny_bind (wpAny_pure (wpAny_pure ⟨_, rfl, wpAny_pure h⟩))) htake)
    | exact wpAny_bind (wpAny_bind (m := Builtin.Tuple.tupleExact _) (wpAny_newObj_type (wpAny_pure (wpAny_pure ⟨_, rfl, wpAny_pure h⟩)) htake))
    | exact wpAny_bind (wpAny_bind (m := Builtin.Tuple.tupleExact _) (wpAny_newObj_type (wpAny_pure ⟨_, rfl, wpAny_pure h⟩) htake))
end
def tRevA (K : PySem.W.Frag) (te : TE) : TE := fun σ H Q => te σ H fun x H1 => ∃ a xs, x = .ref a ∧ ((SqL K H1 a xs ∧ ∀ p, H1 p = none → Q (.ref p) (upd H1 p (.lst xs.reverse))) ∨ (SqT K H1 a xs ∧ NewT H1 xs.reverse Q))
theorem pe_revA {X : Cx} {e : Expr} {te : TE} {k : Nat} {p1 p2 p3 pos : Pos} (he : PE X e te) : PE X (.Subscript e (.Slice none none (some (.UnaryOp .USub (.Constant (.int 1) k p1) p2)) p3) pos) (tRevA X.K te) := by
  refine ⟨fun pins s σ H Q I h => ?_⟩
  refine Subscript_ (thn (he.run pins s σ H _ I h) fun v s1 ⟨x, H1, I1, r1, q1⟩ => ?_)
  obtain ⟨a, xs, ex, hq⟩ := q1
  subst ex
  cases r1
  have hst : PO X (some (.UnaryOp .USub (.Constant (.int 1) k p1) p2)) (tPart (tUn (rU fun i => .int (-i)) (tC (.int 1)))) := po_some (pe_un un_neg pe_int)
  refine wpAny_Slice (thn (po_none.run pins s1 σ H1 (fun o H2 => o = none ∧ H2 = H1) I1 ⟨rfl, rfl⟩) fun vl s2 ⟨l, H2, I2, pl, el, e2⟩ => ?_)
  subst el e2
  refine thn (po_none.run pins s2 σ H2 (fun o H3 => o = none ∧ H3 = H2) I2 ⟨rfl, rfl⟩) fun vu s3 ⟨u, H3, I3, pu, eu, e3⟩ => ?_
  subst eu e3
  refine thn (hst.run pins s3 σ H3 (fun o H4 => o = some (-1) ∧ H4 = H3) I3 ⟨1, rfl, -1, rfl, rfl, rfl⟩) fun vs s4 ⟨o, H4, I4, ps, eo, e4⟩ => ?_
  subst eo e4
  have I5 : Inv X pins σ H4 { s4 with heap := s4.heap.push { cls := .type "slice", data := .fields #[vl, vu, vs] } } := I4.kept (t' := s4.toks) fun b ob q => Heap.get?_push_of_some _ q
  show wpAny (model X.prog X.w) X.A (subscriptTail e (.Slice none none (some (.UnaryOp .USub (.Constant (.int 1) k p1) p2)) p3) (.ref a) (.ref s4.heap.objs.size)) (EP X pins σ Q) X.xe { s4 with heap := s4.heap.push { cls := .type "slice", data := .fields #[vl, vu, vs] } }
  rcases hq with ⟨hx, q⟩ | ⟨hx, q⟩
  · obtain ⟨its, r, ht, hz⟩ := I5.list hx
    have hlen := r.length
    refine tail_any (ops := [.ref a, .ref s4.heap.objs.size]) ht.isList.typeIs (PySem.slot_list_getitem.lookup) ?_ (by with_unfolding_all rfl)
    refine wpAny_getItem_list_slice ht.isList (Heap.IsSliceOf.new _ vl vu vs) pl pu ps (by decide) ?_ (by rw [List.size_toArray]; omega)
    rw [PySem.W.krv_pick]
    refine ⟨.ref _, _, I5.laid (t' := s4.toks) (o := .lst xs.reverse) (fun b ob q => Heap.get?_push_of_some _ q) (Nat.le_refl _) ?_, rfl, q _ (I5.hok.fresh (Nat.le_refl _))⟩
    exact ⟨by rw [List.length_reverse]; exact hz, _, 0, r.reverse, Heap.get?_push_size _ rfl⟩
  · obtain ⟨its, r, ht, hz⟩ := I5.tuple hx
    have hlen := r.length
    refine tail_any (ops := [.ref a, .ref s4.heap.objs.size]) ht.typeIs PyProof.Rows.slot_tuple_getitem.lookup ?_ (by with_unfolding_all rfl)
    refine getItem_tuple_rev ht (Heap.IsSliceOf.new _ vl vu vs) pl pu ps ?_ (by rw [List.size_toArray]; omega)
    exact lay_tup (tk := s4.toks) I5 (by rw [List.length_reverse]; exact hz) r.reverse q
def gRevA : D → Option D
  | .n .lst _ xs => if isFL xs = true then some (.lst true xs.reverse) else none
  | .n .tup _ xs => some (.tup xs.reverse)
  | _ => none
section
variable {X : Cx} {cA : Str → Addr} {W : WX} {fa : Env → Out D} {a : Expr}
theorem de_revA {k : Nat} {p1 p2 p3 pos : Pos} (ha : DE X cA W fa a) : DE X cA W (dU gRevA fa) (.Subscript a (.Slice none none (some (.UnaryOp .USub (.Constant (.int 1) k p1) p2)) p3) pos) :=
  PE.imp (pe_revA (dp_de ha)) (te_un (r := fun x H1 Q => ∃ a xs, x = .ref a ∧ ((SqL X.K H1 a xs ∧ ∀ p, H1 p = none → Q (.ref p) (upd H1 p (.lst xs.reverse))) ∨ (SqT X.K H1 a xs ∧ NewT H1 xs.reverse Q))) (g := gRevA) (by
    refine ⟨@fun d1 d v1 H Z f1 Q h1 w hg q => ?_⟩
    unfold gRevA at hg
    split at hg
    · rename_i o xs
      split at hg
      · rename_i hf
        cases hg
        obtain ⟨p, vs, g, rfl, e1, r1, _⟩ := rep_lst h1
        refine ⟨p, vs, rfl, .inl ⟨SqL.of e1, fun p0 hp => ?_⟩⟩
        obtain ⟨a, b, c⟩ := new_lst w (repL_rev (repL_fl r1 hf)) hp
        exact q _ _ _ _ a b c
      · cases hg
    · rename_i o xs
      cases hg
      obtain ⟨p, vs, rfl, e1, r1, _⟩ := rep_tup h1
      refine ⟨p, vs, rfl, .inr ⟨e1, fun p0 ob hp ho => ?_⟩⟩
      obtain ⟨a, b, c⟩ := new_tup w (repL_rev r1) hp ho
      exact q _ _ _ _ a b c
    · cases hg))
end
end DL
namespace DL
open PySem L2
def tgP (g1 g2 : D → Env → Option Env) (d : D) (ρ : Env) : Option Env := match d with
  | .n .tup _ [a, b] => (match g1 a ρ with
    | some ρ1 => g2 b ρ1
    | none => none)
  | _ => none
theorem But.trans {is js : List Nat} {σ σ1 σ2 : L2.St} (a : But is σ σ1) (b : But js σ1 σ2) : But (is ++ js) σ σ2 :=
  ⟨by rw [b.1, a.1], fun j hj => by
    rw [List.mem_append] at hj
    rw [b.2 j fun m => hj (.inr m), a.2 j fun m => hj (.inl m)]⟩
theorem s_tgP {g1 g2 : D → DL.Env → Option DL.Env} {o : Bool} {a b : D} {ρ : DL.Env} : tgP g1 g2 (.n .tup o [a, b]) ρ = (match g1 a ρ with | some ρ1 => g2 b ρ1 | none => none) := rfl
end DL
namespace DL
open PySem L2 PyProof.Rows
section
variable {X : Cx} {cA : Str → Addr} {W : WX} {fa fb : Env → Out D} {k : Nat} {kio : Option Nat} {f : Addr} {fd : FuncData} {ps : List Str} {F : List D → FR} {mn : Str} {pos : Pos} {a b : Expr} {op : Operator}
end
end DL
namespace DL
open PySem L2 PyProof.Rows
def dBinO (C : Str) (F : List D → FR) (fa fb : Env → Out D) : Env → Out D := fun ρ => match fa ρ with
  | .ok (.n (.ins C1 fs) false xs) ρ1 => if C1 = C ∧ isFL xs = true then (match fb ρ1 with
    | .ok (.n (.ins C2 gs) false ys) ρ2 => if C2 = C ∧ isFL ys = true then (match F [.n (.ins C1 fs) false xs, .n (.ins C2 gs) false ys] with
        | .rt d _ => .ok d ρ2
        | .ex e _ => .ex e ρ2
        | .st => .st) else .st
    | .ok _ _ => .st
    | .ex e ρ2 => .ex e ρ2
    | .st => .st) else .st
  | .ok _ _ => .st
  | .ex e ρ1 => .ex e ρ1
  | .st => .st
section
variable {X : Cx} {cA : Str → Addr} {W : WX} {fa fb : Env → Out D} {k : Nat} {kio : Option Nat} {f : Addr} {fd : FuncData} {ps : List Str} {F : List D → FR} {mn : Str} {pos : Pos} {a b : Expr} {op : Operator}
end
end DL
namespace DL
open PySem L2 PyProof.Rows
def dNegO (C : Str) (F : List D → FR) (fa : Env → Out D) : Env → Out D := fun ρ => match fa ρ with
  | .ok (.n (.ins C1 fs) false xs) ρ1 => if C1 = C ∧ isFL xs = true then (match F [.n (.ins C1 fs) false xs] with
        | .rt d _ => .ok d ρ1
        | .ex e _ => .ex e ρ1
        | .st => .st) else .st
  | .ok _ _ => .st
  | .ex e ρ1 => .ex e ρ1
  | .st => .st
section
variable {X : Cx} {cA : Str → Addr} {W : WX} {fa : Env → Out D} {k : Nat} {kio : Option Nat} {f : Addr} {fd : FuncData} {ps : List Str} {F : List D → FR} {pos : Pos} {a : Expr}
end
end DL
namespace DL
open PySem L2
def isLs : Kd → Bool
  | .lst => true
  | _ => false
def isTI : Kd → Bool
  | .tup => true
  | .ins _ _ => true
  | _ => false
mutual
def okO : D → Bool
  | .a _ => true
  | .n k o xs => (!o || isLs k) && okOL xs
def okOL : List D → Bool
  | [] => true
  | x :: xs => okO x && okOL xs
end
mutual
def noL : D → Bool
  | .a _ => true
  | .n k _ xs => isTI k && noLL xs
def noLL : List D → Bool
  | [] => true
  | x :: xs => noL x && noLL xs
end
section
variable {K : PySem.W.Frag} {cA : Str → Addr} {H H' : Hp} {Z Z' : ZS}
def tmpE (is : List Nat) : Nat → Env → Env
  | _, [] => []
  | k, none :: ρ => none :: tmpE is (k + 1) ρ
  | k, some d :: ρ => (if k ∈ is ∧ okO d = true then some (frz d) else if isF d = true then some d else none) :: tmpE is (k + 1) ρ
end
def dTmp (is : List Nat) (f : Env → Out D) : Env → Out D := fun ρ => match f (tmpE is 0 ρ) with
  | .ok d _ => if noL d = true then .ok d ρ else .st
  | .ex e _ => .ex e ρ
  | .st => .st
section
variable {X : Cx} {cA : Str → Addr} {W : WX} {f : Env → Out D} {e : Expr}
def dMv (i : Nat) : Env → Out D := fun ρ => match ρ[i]? with
  | some (some d) => .ok d (ρ.set i none)
  | _ => .st
def dPop0 (i : Nat) : Env → Out D := fun ρ => match ρ[i]? with
  | some (some (.n .lst true xs)) => (match xs[xs.length - 1]? with
    | some d => .ok d (ρ.set i (some (.lst true (xs.eraseIdx (xs.length - 1)))))
    | none => .st)
  | _ => .st
end
end DL
namespace DL
open PySem L2
def keyOf : At → Option Key
  | .int i => some (.inl i)
  | .str s => some (.inr s)
  | _ => none
theorem keyOf_v {x : At} {k : Key} (h : keyOf x = some k) : x.v = kV k := by
  cases x <;> simp [keyOf] at h <;> subst h <;> rfl
def dctAt : List Key → List D → Key → Option D
  | k :: ks, x :: xs, j => if k = j then some x else dctAt ks xs j
  | _, _, _ => none
def hasK (j : Key) : List Key → Bool
  | [] => false
  | k :: ks => decide (k = j) || hasK j ks
def putKs (ks : List Key) (j : Key) : List Key := if hasK j ks = true then ks else ks ++ [j]
def putR : List Key → List D → Key → D → List D
  | k :: ks, x :: xs, j, d => (if k = j then d else x) :: putR ks xs j d
  | _, _, _, _ => []
def putXs (ks : List Key) (xs : List D) (j : Key) (d : D) : List D := if hasK j ks = true then putR ks xs j d else xs ++ [d]
section
variable {K : PySem.W.Frag} {cA : Str → Addr} {H H' : Hp} {Z Z' : ZS}
theorem rep_dct {ks : List Key} {o : Bool} {xs : List D} {v : V} {fp : FP} (h : RepD K cA H Z (.n (.dct ks) o xs) v fp) : ∃ p vs g, v = .ref p ∧ H p = some (.dK (ks.zip vs)) ∧ ks.length = vs.length ∧ RepL K cA H Z xs vs g ∧ fp = (if o then p :: g else []) ∧ (o = false → Z p ∧ g = []) := by
  obtain ⟨p, vs, g, e, hl, ⟨h1, h2, h3⟩, ef, hg⟩ := h
  exact ⟨p, vs, g, e, h1, h2, hl, ef, fun ho => ⟨h3 ho, hg ho⟩⟩
theorem dctAt_rep : ∀ {ks : List Key} {xs : List D} {vs : List V} {g : FP} {k : Key}, RepL K cA H Z xs vs g → ks.length = vs.length → (∀ d, dctAt ks xs k = some d → ∃ v f0 f1 f2, valV (ks.zip vs) k = some v ∧ RepD K cA H Z d v f1 ∧ g = f0 ++ f1 ++ f2) ∧ (dctAt ks xs k = none → valV (ks.zip vs) k = none)
  | [], xs, vs, g, k, h, hl => by
    have e : vs = [] := List.length_eq_zero_iff.mp hl.symm
    subst e
    exact ⟨fun d e => by cases xs <;> simp [dctAt] at e, fun _ => rfl⟩
  | j :: ks, [], vs, g, k, h, hl => by
    rw [h.1] at hl
    cases hl
  | j :: ks, x :: xs, vs, g, k, h, hl => by
    obtain ⟨v, vs', f1, f2, ev, h1, h2, ef⟩ := h
    subst ev
    have ih := dctAt_rep (k := k) h2 (by simpa using hl)
    rw [List.zip_cons_cons]
    by_cases e : j = k
    · rw [valV_pos e]
      simp only [dctAt, e, if_pos]
      exact ⟨fun d e => by cases e; exact ⟨v, [], f1, f2, rfl, h1, by simpa using ef⟩, fun e => by cases e⟩
    · rw [valV_neg e]
      simp only [dctAt, if_neg e]
      exact ⟨fun d hd => by
        obtain ⟨w, g0, g1, g2, e1, e2, e3⟩ := ih.1 d hd
        exact ⟨w, f1 ++ g0, g1, g2, e1, e2, by rw [ef, e3]; simp⟩, ih.2⟩
theorem any_zip {k : Key} : ∀ {ks : List Key} {vs : List V}, ks.length = vs.length → ((ks.zip vs).any fun kv => decide (kv.1 = k)) = hasK k ks
  | [], [], _ => rfl
  | j :: ks, v :: vs, h => by
    rw [List.zip_cons_cons, List.any_cons, any_zip (by simpa using h)]
    rfl
  | [], _ :: _, h => by cases h
  | _ :: _, [], h => by cases h
theorem putR_rep {k : Key} {d : D} {v : V} (hd : RepD K cA H Z d v []) : ∀ {ks : List Key} {xs : List D} {vs : List V}, RepL K cA H Z xs vs [] → ks.length = vs.length → ∃ ws, RepL K cA H Z (putR ks xs k d) ws [] ∧ ks.length = ws.length ∧ ((ks.zip vs).map fun kv => if kv.1 = k then (kv.1, v) else kv) = ks.zip ws
  | [], xs, vs, h, hl => by
    have e : vs = [] := List.length_eq_zero_iff.mp hl.symm
    subst e
    have e : xs = [] := List.length_eq_zero_iff.mp (repL_len h).symm
    subst e
    exact ⟨[], ⟨rfl, rfl⟩, rfl, rfl⟩
  | j :: ks, [], vs, h, hl => by
    rw [h.1] at hl
    cases hl
  | j :: ks, x :: xs, vs, h, hl => by
    obtain ⟨u, vs', f1, f2, ev, h1, h2, ef⟩ := h
    subst ev
    obtain ⟨rfl, rfl⟩ : f1 = [] ∧ f2 = [] := by
      have := ef.symm
      simpa using this
    obtain ⟨ws, r, l, e⟩ := putR_rep hd (ks := ks) h2 (by simpa using hl)
    rw [List.zip_cons_cons, List.map_cons, e]
    by_cases q : j = k
    · refine ⟨v :: ws, ⟨v, ws, [], [], rfl, ?_, r, rfl⟩, by simp [l], ?_⟩
      · rw [if_pos q]; exact hd
      · subst q; rw [List.zip_cons_cons]; simp
    · refine ⟨u :: ws, ⟨u, ws, [], [], rfl, ?_, r, rfl⟩, by simp [l], ?_⟩
      · rw [if_neg q]; exact h1
      · rw [List.zip_cons_cons]; simp [q]
theorem put_rep {k : Key} {d : D} {v : V} {ks : List Key} {xs : List D} {vs : List V} (hd : RepD K cA H Z d v []) (h : RepL K cA H Z xs vs []) (hl : ks.length = vs.length) : ∃ ws, RepL K cA H Z (putXs ks xs k d) ws [] ∧ (putKs ks k).length = ws.length ∧ putK (ks.zip vs) k v = (putKs ks k).zip ws := by
  unfold putXs putKs putK
  rw [any_zip hl]
  by_cases q : hasK k ks = true
  · rw [if_pos q, if_pos q, if_pos q]
    exact putR_rep hd h hl
  · rw [if_neg q, if_neg q, if_neg q]
    refine ⟨vs ++ [v], repL_append h (repL_one hd), by simp [hl], ?_⟩
    rw [List.zip_append hl]
    rfl
end
def dDGet (i : Nat) (fb : Env → Out D) : Env → Out D := fun ρ => match ρ[i]? with
  | some (some (.n (.dct _) _ _)) => (match fb ρ with
    | .ok (.a x) ρ1 => (match keyOf x with
      | some k => (match ρ1[i]? with
        | some (some (.n (.dct ks) _ xs)) => (match dctAt ks xs k with
          | some d => if isF d = true then .ok d ρ1 else .st
          | none => .st)
        | _ => .st)
      | none => .st)
    | .ok _ _ => .st
    | .ex e ρ1 => .ex e ρ1
    | .st => .st)
  | _ => .st
def dDIn (neg : Bool) (i : Nat) (fb : Env → Out D) : Env → Out D := fun ρ => match fb ρ with
  | .ok (.a x) ρ1 => (match keyOf x with
    | some k => (match ρ1[i]? with
      | some (some (.n (.dct ks) _ xs)) => if ks.length = xs.length then .ok (.a (.bl (if neg then !hasK k ks else hasK k ks))) ρ1 else .st
      | _ => .st)
    | none => .st)
  | .ok _ _ => .st
  | .ex e ρ1 => .ex e ρ1
  | .st => .st
def dDGet2 (i : Nat) (fb fc : Env → Out D) : Env → Out D := fun ρ => match ρ[i]? with
  | some (some (.n (.dct _) _ _)) => (match fb ρ with
    | .ok (.a x) ρ1 => (match fc ρ1 with
      | .ok c ρ2 => (match keyOf x with
        | some k => (match ρ2[i]? with
          | some (some (.n (.dct ks) _ xs)) => (match dctAt ks xs k with
            | some d => if isF d = true ∧ isF c = true then .ok d ρ2 else .st
            | none => if isF c = true then .ok c ρ2 else .st)
          | _ => .st)
        | none => .st)
      | .ex e ρ2 => .ex e ρ2
      | .st => .st)
    | .ok _ _ => .st
    | .ex e ρ1 => .ex e ρ1
    | .st => .st)
  | _ => .st
def stDPut (i : Nat) (fj : Env → Out D) (d : D) (ρ : Env) : Fl := match ρ[i]? with
  | some (some (.n (.dct _) true _)) => (match fj ρ with
    | .ok (.a x) ρ2 => (match keyOf x with
      | some k => (match ρ2[i]? with
        | some (some (.n (.dct ks) true xs)) => if (isF d = true ∧ isFL xs = true) ∧ xs.length < cap then .nx (ρ2.set i (some (.n (.dct (putKs ks k)) true (putXs ks xs k d)))) else .st
        | _ => .st)
      | none => .st)
    | .ok _ _ => .st
    | .ex e ρ2 => .ex e ρ2
    | .st => .st)
  | _ => .st
def gLenD : D → Option D
  | .n (.dct _) _ xs => some (.a (.int xs.length))
  | _ => none
section
variable {X : Cx} {cA : Str → Addr} {W : WX} {fa fb fc f : Env → Out D} {a b c e o ix : Expr} {pos apos cpos : Pos} {k : Option Nat}
theorem de_dget {i : Nat} (hu : X.A.units + 1 < cLine) (ho : PE X o (tVar i)) (hb : DE X cA W fb b) (hs : NoSl b := by exact fun _ _ => rfl) : DE X cA W (dDGet i fb) (.Subscript o b pos) := de_of (pe_dget hu ho hb hs) fun σ H Q Z L ρ r w p => by
  unfold dDGet at p
  split at p
  · rename_i k0 o0 xs0 h0
    obtain ⟨v, _, _, _, hv, hr0, _, _, _⟩ := relL_at r h0
    refine ⟨v, hv, Z, L, ρ, r, w, ?_⟩
    cases hj : fb ρ with
    | st => rw [hj] at p; exact p
    | ex e ρ2 => rw [hj] at p; exact p
    | ok d2 ρ2 =>
      rw [hj] at p
      intro u H2 Z2 L2 fp2 r2 w2 h2 F2
      cases d2 with
      | n k o xs => exact p.elim
      | a x =>
        dsimp only at p
        split at p
        · rename_i k hk
          split at p
          · rename_i ks o1 xs hx
            split at p
            · rename_i d hd
              split at p
              · rename_i hf
                obtain ⟨e1, e2⟩ := h2
                subst e1 e2
                obtain ⟨f0, f1, f2, hr, eL⟩ := slot_now (ρ := ρ) r2 hx hv
                obtain ⟨q, vs, g, ev, hp, hl, rx, ef, hg⟩ := rep_dct hr
                obtain ⟨y, g0, g1, g2, hy, hyr, eg⟩ := (dctAt_rep (k := k) rx hl).1 d hd
                have e := repD_isF d hyr hf
                subst e
                refine ⟨q, y, ev, .inl ⟨_, k, .inl hp, keyOf_v hk, hy.symm⟩, ?_⟩
                exact p y H2 Z2 L2 [] r2 w2 hyr F2
              · exact p.elim
            · exact p.elim
          · exact p.elim
        · exact p.elim
  · exact p.elim
theorem ds_dput {i : Nat} {spos : Pos} (hu : X.A.units + 1 < cLine) (he : DE X cA W f e) (ho : PE X o (tVar i)) (hi : DE X cA W fb ix)
    (hs : swapsWith e (some (.Subscript o ix spos)) pos.line X.env = pure false := by kernel_rfl) : DS X cA W k (dBind f (stDPut i fb)) (.Assign [.Subscript o ix spos] e pos) :=
  ds_of (ps_dput hu ho hi he hs) fun T σ H Z L ρ r w p => bind_te r w p fun d ρ1 v H1 Z1 L1 fp hd r1 w1 h1 F1 p => by
    unfold stDPut at p
    split at p
    · rename_i k0 xs0 h0
      obtain ⟨v0, _, _, _, hv, hr0, _, _, _⟩ := relL_at r1 h0
      refine ⟨v0, hv, Z1, L1, ρ1, r1, w1.less (List.sublist_append_right _ _), ?_⟩
      cases hj : fb ρ1 with
      | st => rw [hj] at p; exact p
      | ex e ρ2 =>
        rw [hj] at p
        exact exw (post_es p) (F1.less fun x m => by simp [m])
      | ok d2 ρ2 =>
        rw [hj] at p
        intro u H2 Z2 L2 fp2 r2 w2 h2 F2
        cases d2 with
        | n k o xs => exact p.elim
        | a x =>
          dsimp only at p
          split at p
          · rename_i k hk
            split at p
            · rename_i ks xs hx
              split at p
              · rename_i hc
                obtain ⟨⟨hfd, hfx⟩, hcap⟩ := hc
                obtain ⟨e1, e2⟩ := h2
                subst e1 e2
                have ef := repD_isF d h1 hfd
                subst ef
                have h1' := repD_wait (fp := []) w1 h1 F2
                obtain ⟨v', f0, f1, f2, hv', hr, eL, put, _⟩ := relL_at r2 hx
                rw [hv] at hv'
                cases hv'
                obtain ⟨q, vs, g, ev, hp, hl, rx, efp, _⟩ := rep_dct hr
                have eg := repL_isF xs rx hfx
                subst eg
                subst ev efp
                obtain ⟨ws, rw', lw, ew⟩ := put_rep (k := k) h1' rx hl
                have lx := repL_len rx
                refine ⟨q, upd H2 q (.dK (putK (ks.zip vs) k v)), rfl, .inl ⟨_, k, hp, keyOf_v hk, ?_, rfl⟩, ?_⟩
                · rw [List.length_zip, hl, Nat.min_self, lx]
                  exact cap_lt hcap
                · rw [ew]
                  have qz : ¬ Z2 q := w2.dj q (by rw [eL]; simp)
                  have nd := w2.nd
                  rw [List.nil_append, eL] at nd
                  have nd1 := List.nodup_append.mp nd
                  have nd2 := List.nodup_append.mp nd1.1
                  have q0 : q ∉ f0 := fun m => nd2.2.2 q m q (by simp) rfl
                  have q2 : q ∉ f2 := fun m => nd1.2.2 q (by simp) q m rfl
                  have kn : ∀ a o, a ≠ q → H2 a = some o → upd H2 q (.dK ((putKs ks k).zip ws)) a = some o := fun a o n e => by rw [upd_ne n]; exact e
                  have rep' : RepD X.K cA (upd H2 q (.dK ((putKs ks k).zip ws))) Z2 (.n (.dct (putKs ks k)) true (putXs ks xs k d)) (.ref q) [q] := ⟨q, ws, [], rfl, repL_mono _ (fun _ z => z) (fun a o m e => kn a o (fun z => by
                    subst z
                    exact m.elim qz (fun m => nomatch m)) e) rw', ⟨upd_same, lw, fun z => nomatch z⟩, rfl, fun z => nomatch z⟩
                  have pr := put (H' := upd H2 q (.dK ((putKs ks k).zip ws))) (Z' := Z2) (fun _ z => z) (fun a o m e => kn a o (fun z => by
                    subst z
                    rcases m with m | m | m
                    · exact qz m
                    · exact q0 m
                    · exact q2 m) e) rep'
                  rw [set_same hv] at pr
                  have F12 := F1.trans F2
                  refine p σ _ Z2 _ pr ⟨by rw [eL] at w2; exact w2.nd, fun a m => w2.dj a (by rw [eL]; exact m), fun a z => ?_⟩ ⟨fun a o e n => ?_, F12.zm, F12.zs, fun a m => F12.ls a (by rw [eL]; exact m)⟩ Pin.refl
                  · obtain ⟨o, e⟩ := w2.tz a z
                    by_cases h : a = q
                    · subst h; exact absurd z qz
                    · exact ⟨o, kn a o h e⟩
                  · have h3 := F12.keep a o e n
                    by_cases h : a = q
                    · subst h
                      rcases F12.ls a (by rw [eL]; simp) with z | z
                      · exact absurd z n
                      · rw [z] at e; cases e
                    · exact kn a o h h3
              · exact p.elim
            · exact p.elim
          · exact p.elim
    · exact p.elim
def dDisp1 (fb fc : Env → Out D) : Env → Out D := fun ρ => match fb ρ with
  | .ok (.a x) ρ1 => (match fc ρ1 with
    | .ok d ρ2 => (match keyOf x with
      | some k => if isF d = true then .ok (.n (.dct [k]) true [d]) ρ2 else .st
      | none => .st)
    | .ex e ρ2 => .ex e ρ2
    | .st => .st)
  | .ok _ _ => .st
  | .ex e ρ1 => .ex e ρ1
  | .st => .st
theorem de_disp1 (hb : DE X cA W fb b) (hc : DE X cA W fc c) (hp : PPs X pos [some b] [c] [(TEof X.K cA W fb, TEof X.K cA W fc)] := by exact pps_cons ‹_› ‹_› pps_nil) : DE X cA W (dDisp1 fb fc) (.Dict [some b] [c] pos) := de_of (pe_disp hp rfl rfl (by simp) (by simp)) fun σ H Q Z L ρ r w p q nq => by
  have kn := keep_new (o := HO.dK []) nq
  have w2 := wf_new (o := HO.dK []) w nq (relL_trk r)
  have r2 : RelL X.K cA (upd H q (.dK [])) Z ρ σ L := relL_mono (fun _ z => z) (fun a u _ e => kn a u e) r
  have F0 : Fr H Z L (upd H q (.dK [])) Z (q :: L) := fr_new nq
  unfold dDisp1 at p
  refine ⟨Z, L, ρ, r2, w2.less (List.sublist_cons_self _ _), ?_⟩
  have back : ∀ {H' Z' L'}, Fr (upd H q (.dK [])) Z L H' Z' L' → Fr H Z L H' Z' L' := fun {H' Z' L'} F => ⟨fun a o e n => F.keep a o (kn a o e) n, F.zm, fun a z => (F.zs a z).imp id (fun q => q.imp id (fun e => by
    cases h : H a with
    | none => rfl
    | some o => rw [kn a o h] at e; cases e)), fun a m => (F.ls a m).imp id (fun e => by
    cases h : H a with
    | none => rfl
    | some o => rw [kn a o h] at e; cases e)⟩
  cases hb' : fb ρ with
  | st => rw [hb'] at p; exact p
  | ex e ρ1 =>
    rw [hb'] at p
    intro cls d H' Z' L' r' w' x' F'
    exact p cls d H' Z' L' r' w' x' (back F')
  | ok d1 ρ1 =>
    rw [hb'] at p
    intro u H1 Z1 L1 fp1 r1 w1 h1 F1
    cases d1 with
    | n k o xs => exact p.elim
    | a x =>
      obtain ⟨e1, e2⟩ := h1
      subst e1 e2
      dsimp only at p
      refine ⟨Z1, L1, ρ1, r1, w1, ?_⟩
      cases hc' : fc ρ1 with
      | st => rw [hc'] at p; exact p
      | ex e ρ2 =>
        rw [hc'] at p
        intro cls d H' Z' L' r' w' x' F'
        exact p cls d H' Z' L' r' w' x' (back (F1.trans F'))
      | ok d2 ρ2 =>
        rw [hc'] at p
        intro u2 H2 Z2 L2 fp2 r2 w2' h2 F2
        dsimp only at p
        split at p
        · rename_i k hk
          split at p
          · rename_i hf
            have e := repD_isF d2 h2 hf
            subst e
            have F12 := F1.trans F2
            have nql : q ∉ L := fun m => by
              obtain ⟨o, e⟩ := relL_trk r q m
              rw [nq] at e
              cases e
            have e2q : H2 q = some (.dK []) := F12.keep q _ upd_same nql
            have nZ : ¬ Z2 q := fun z => by
              rcases F12.zs q z with z | z | z
              · obtain ⟨o, e⟩ := w.tz q z
                rw [nq] at e
                cases e
              · exact nql z
              · rw [upd_same] at z
                cases z
            have nL : q ∉ L2 := fun m => by
              rcases F12.ls q (by simpa using m) with z | z
              · exact nql z
              · rw [upd_same] at z
                cases z
            refine ⟨e2q, [(k, u2)], ?_, by simp, ?_⟩
            · rw [keyOf_v hk]
              rfl
            · have em : mergeK [] [(k, u2)] = [k].zip [u2] := rfl
              rw [em]
              have k2 : ∀ a o, a ≠ q → H2 a = some o → upd H2 q (.dK ([k].zip [u2])) a = some o := fun a o n e => by rw [upd_ne n]; exact e
              refine p (.ref q) _ Z2 L2 [q] (relL_mono (fun _ z => z) (fun a o m e => k2 a o (fun z => by
                subst z
                exact m.elim nZ nL) e) r2) ⟨List.nodup_cons.mpr ⟨by simpa using nL, by simpa using w2'.nd⟩, fun a m => ?_, fun a z => ?_⟩ ⟨q, [u2], [], rfl, repL_mono _ (fun _ z => z) (fun a o m e => k2 a o (fun z => by
                subst z
                exact m.elim nZ (fun m => nomatch m)) e) (repL_one h2), ⟨upd_same, rfl, fun z => nomatch z⟩, rfl, fun z => nomatch z⟩ ?_
              · rcases List.mem_cons.mp m with rfl | m
                · exact nZ
                · exact w2'.dj a (by simpa using m)
              · obtain ⟨o, e⟩ := w2'.tz a z
                exact ⟨o, k2 a o (fun h => nZ (h ▸ z)) e⟩
              · have B := back F12
                refine ⟨fun a o e n => k2 a o (fun h => by subst h; rw [nq] at e; cases e) (B.keep a o e n), B.zm, B.zs, fun a m => ?_⟩
                rcases List.mem_cons.mp m with rfl | m
                · exact .inr nq
                · exact B.ls a (by simpa using m)
          · exact p.elim
        · exact p.elim
end
end DL
namespace DL
open PySem L2
theorem room_u0 {k : Nat} {A : Around} (r : Room k A) : A.units + 1 < cLine := by have := r.un; omega
section
variable {P : Program} {w : World} {K : PySem.W.Frag} {cA : Str → Addr} {mg : Str → Option Value} {base : Heap}
end
end DL
namespace DL
open PySem L2
section
variable {X : Cx} {cA : Str → Addr} {W : WX} {f : Env → Out D}
def dFzB (i : Nat) (f : Env → Fl) : Env → Fl := fun ρ => match ρ[i]? with
  | some (some d) => f (ρ.set i (some (frz d)))
  | _ => f ρ
end
end DL
namespace DL
open PySem L2
section
variable {X : Cx} {cA : Str → Addr} {W : WX} {fb : Env → Out D} {b o : Expr} {pos : Pos}
end
end DL
namespace DL
open PySem L2
theorem ints_are : ∀ {ns : List Int} {us : List Value}, Vals (ns.map V.int) us → PyProof.Rows.IntsAre us ns
  | [], us, h => by
    cases us with
    | nil => exact .nil
    | cons u us => cases h
  | n :: ns, us, h => by
    cases h with
    | cons r h =>
      obtain ⟨t, rfl⟩ := r
      exact .cons n t (ints_are h)
def rSumT (K : PySem.W.Frag) : List V → Hp → VK → Prop := fun vs H Q => ∃ (a : Addr) (ns : List Int), vs = [V.ref a] ∧ SqT K H a (ns.map V.int) ∧ Q (.int ns.sum) H
section
variable {X : Cx}
open PyProof.Rows in
theorem cr_sumT (hc : X.calm = true) : CallR X (.builtin "sum") (rSumT X.K) := by
  intro pins s σ H vs us Q I r h
  obtain ⟨a, ns, rfl, hs, q⟩ := h
  obtain ⟨its, rv, hl, _⟩ := I.tuple hs
  rw [Vals.ref1 r]
  have hi := ints_are rv
  obtain ⟨xs, e⟩ := hi.allInts.items
  have hn : numsOf (intItems xs).toList = ns := by rw [← e]; exact hi.numsOf
  rw [nums_intItems] at hn
  rw [e] at hl
  refine PySem.W.ktm_sumG (I.ok.hd hc) hl fun h' tk t' hk => ?_
  refine ⟨.int _, H, I.kept hk, ⟨t', ?_⟩, q⟩
  rw [preSum_eq, List.take_of_length_le (by simp), hn]
end
section
variable {K : PySem.W.Frag} {cA : Str → Addr}
end
section
variable {X : Cx} {cA : Str → Addr} {W : WX} {fa fb : Env → Out D} {a b : Expr} {p pos : Pos}
end
end DL
namespace DL
open PySem L2
def rSortedIT (K : PySem.W.Frag) : List V → Hp → VK → Prop := fun vs H Q => ∃ (a : Addr) (ns : List Int), vs = [V.ref a] ∧ SqT K H a (ns.map V.int) ∧
  ∀ (ns' : List Int) (p : Addr), ns'.Perm ns → ns'.Pairwise (· ≤ ·) → H p = none → Q (.ref p) (upd H p (.lst (ns'.map V.int)))
section
variable {X : Cx}
open PyProof.Rows SrtO in
theorem cr_sortedIT : CallR X (.builtin "sorted") (rSortedIT X.K) := by
  intro pins s σ H vs us Q I r h
  obtain ⟨a, ns, rfl, hs, q⟩ := h
  obtain ⟨its, rv, hl, hz⟩ := I.tuple hs
  rw [Vals.ref1 r]
  have hi := ints_are rv
  obtain ⟨o, ho, hc, n, hd⟩ := hl
  have hz' : its.length ≤ sizeLine := by rw [← rv.length]; exact hz
  refine Calls.call_function_entry kind_sorted plain_sorted entry_sorted (args_sorted1 _) ?_
  unfold Builtin.«sorted»
  refine wpAny_bind (m := checkCount "sorted" 1 1 _) (wpAny_pure ?_)
  refine wpAny_bind (wpAny_collect_seq a (.inr rfl) ho hc hd (fun h' hk => ?_) (by simpa using hz'))
  have I2 : Inv X pins σ H { s with heap := h' } := I.kept (t' := s.toks) hk
  refine wpAny_bind (wpAny_newList ?_ hz')
  have hoL : (h'.push (seqObj "list" its.toArray 0)).get? h'.objs.size = some (seqObj "list" its.toArray 0) := Heap.get?_push_size _ rfl
  show wpAny _ _ _ _ _ { s with heap := h'.push (seqObj "list" its.toArray 0) }
  refine wpAny_bind (wpAny_holding (wpAny_call_entry slot_list_sort ⟨_, hoL, rfl⟩ entry_list_sort (list_sort_ord swo_int hoL hz' (fun h2 => ints_sortable hi h2) fun out h1 h2 => ⟨_, rfl, ?_⟩) (args_list_sort _)))
  obtain ⟨k1, k2, k3⟩ := ints_out hi h1 h2
  obtain ⟨ep, he'⟩ := sortedHeap_at (out := out.toArray) hoL
  have hlen : ((out.map iv).map V.int).length ≤ sizeLine := by
    rw [List.length_map, k2.length_eq]
    rw [List.length_map] at hz
    exact hz
  refine wpAny_pure ⟨_, rfl, .ref _, upd H h'.objs.size (.lst ((out.map iv).map V.int)), I2.laid (t' := s.toks) (fun b u hb => ?_) (Nat.le_refl _) ⟨hlen, out, ep, vals_of_ints k1, he'⟩, rfl, q _ _ k2 k3 (I2.hok.fresh (Nat.le_refl _))⟩
  have hlt : b < h'.objs.size := Heap.lt_size hb
  exact (sortedHeap_old (Nat.ne_of_lt hlt) (by rw [Heap.size_push]; exact Nat.lt_succ_of_lt hlt)).trans (Heap.get?_push_of_some _ hb)
end
def gSortIT : D → Option D
  | .n .tup _ xs => (intsOf xs).map fun ns => .lst true ((sortI ns).map D.int)
  | _ => none
section
variable {K : PySem.W.Frag} {cA : Str → Addr}
theorem vc_sortT : VC1 K cA (rSortedIT K) gSortIT := by
  refine ⟨@fun d1 d v1 H Z f1 Q h1 w hg q => ?_⟩
  unfold gSortIT at hg
  split at hg
  · rename_i o xs
    obtain ⟨p, vs, rfl, e1, r1, _⟩ := rep_tup h1
    cases e : intsOf xs with
    | none => rw [e] at hg; cases hg
    | some bs =>
      rw [e] at hg
      cases hg
      have ev := intsOf_rep e r1
      subst ev
      refine ⟨p, bs, rfl, e1, fun ns' p' hp hs hn => ?_⟩
      have e3 : ns' = sortI bs := sorted_uniq hs (sortI_sorted bs) (hp.trans (sortI_perm bs).symm)
      subst e3
      obtain ⟨a, b, c⟩ := new_lst w (repL_ints (K := K) (cA := cA) (H := H) (Z := Z) (sortI bs)) hn
      exact q _ _ _ _ a b c
  · cases hg
end
section
variable {X : Cx} {cA : Str → Addr} {W : WX} {fa fb : Env → Out D} {a b : Expr} {p pos : Pos}
theorem de_sortT (hg : Gl X "sorted") (hm : X.mg "sorted" = none) (ha : DP X cA W fa a) (hs : starEach [a] X.env = (false, eval a X.env) :: starEach [] X.env := by kernel_rfl) : DE X cA W (dU gSortIT fa) (.Call (.Name "sorted" p) [a] [] pos) :=
  de_callB cr_sortedIT vc_sortT hg hm boot_sorted ha (by decide) (by decide) hs hs
end
section
variable {prog : Program} {w : World} {A : Around} {E : Value → Shared → Prop} {s : Shared}
end
section
variable {K : PySem.W.Frag} {cA : Str → Addr}
end
section
variable {X : Cx} {cA : Str → Addr} {W : WX} {f : Env → Out D} {e : Expr} {p pos tpos : Pos} {elts : List Expr} {kk : Nat}
end
end DL
namespace DL
open PySem L2
def dDGetE (fa fb : Env → Out D) : Env → Out D := fun ρ => match fa ρ with
  | .ok (.n (.dct ks) _ xs) ρ1 => (match fb ρ1 with
    | .ok (.a x) ρ2 => (match keyOf x with
      | some k => (match dctAt ks xs k with
        | some d => if isF d = true then .ok d ρ2 else .st
        | none => .st)
      | none => .st)
    | .ok _ _ => .st
    | .ex e ρ2 => .ex e ρ2
    | .st => .st)
  | .ok _ _ => .st
  | .ex e ρ1 => .ex e ρ1
  | .st => .st
section
variable {X : Cx} {cA : Str → Addr} {W : WX} {fa fb : Env → Out D} {b o : Expr} {pos : Pos}
theorem de_dgetE (hu : X.A.units + 1 < cLine) (ho : DE X cA W fa o) (hb : DE X cA W fb b) (hs : NoSl b := by exact fun _ _ => rfl) : DE X cA W (dDGetE fa fb) (.Subscript o b pos) := PE.imp (pe_dget hu ho hb hs) fun σ H Q ⟨Z, L, ρ, r, w, p⟩ => by
  refine ⟨Z, L, ρ, r, w, ?_⟩
  unfold dDGetE at p
  cases ha : fa ρ with
  | st => rw [ha] at p; exact p
  | ex e ρ1 => rw [ha] at p; exact p
  | ok d1 ρ1 =>
    rw [ha] at p
    intro v1 H1 Z1 L1 f1 r1 w1 h1 F1
    cases d1 with
    | a x => exact p.elim
    | n kk o1 xs =>
      cases kk <;> first
        | exact p.elim
        | (rename_i ks
           dsimp only at p
           refine ⟨Z1, L1, ρ1, r1, w1.less (List.sublist_append_right _ _), ?_⟩
           cases hb : fb ρ1 with
           | st => rw [hb] at p; exact p
           | ex e ρ2 =>
             rw [hb] at p
             exact exw p (F1.less fun x m => by simp [m])
           | ok d2 ρ2 =>
             rw [hb] at p
             intro u H2 Z2 L2 f2 r2 w2 h2 F2
             cases d2 with
             | n k o xs => exact p.elim
             | a x =>
               dsimp only at p
               split at p
               · rename_i k hk
                 split at p
                 · rename_i d hd
                   split at p
                   · rename_i hf
                     obtain ⟨e1, e2⟩ := h2
                     subst e1 e2
                     have h1' := repD_wait w1 h1 F2
                     obtain ⟨q, vs, g, ev, hp, hl, rx, ef, hg⟩ := rep_dct h1'
                     obtain ⟨y, g0, g1, g2, hy, hyr, eg⟩ := (dctAt_rep (k := k) rx hl).1 d hd
                     have e := repD_isF d hyr hf
                     subst e
                     refine ⟨q, y, ev, .inl ⟨_, k, .inl hp, keyOf_v hk, hy.symm⟩, ?_⟩
                     exact p y H2 Z2 L2 [] r2 (w2.less (List.sublist_append_right _ _)) hyr ((F1.less fun x m => by simp [m]).trans (F2.less fun x m => by
                       have m : x ∈ L2 := by simpa using m
                       simp [m]))
                   · exact p.elim
                 · exact p.elim
               · exact p.elim)
end
end DL
namespace DL
open PySem L2
def gDivm (d1 d2 : D) : Option D := match d1, d2 with
  | .a (.int i), .a (.int j) => if 0 < j ∧ j < 1073741824 then some (.tup [.int (i / j), .int (i % j)]) else none
  | _, _ => none
section
variable {X : Cx} {cA : Str → Addr} {W : WX} {fa fb : Env → Out D} {a b : Expr} {pos p p2 pos2 : Pos}
end
end DL
namespace DL
open PySem L2
def SO {α : Type} (o : Option α) (P : α → Prop) : Prop := match o with
  | some x => P x
  | none => False
@[simp] theorem so_some {α : Type} {x : α} {P : α → Prop} : SO (some x) P = P x := rfl
@[simp] theorem so_none {α : Type} {P : α → Prop} : SO none P = False := rfl
@[simp] theorem so_ite {α : Type} {c : Prop} [Decidable c] {a b : Option α} {P : α → Prop} : SO (if c then a else b) P = (if c then SO a P else SO b P) := by split <;> rfl
def WO {α : Type} (E : Exn → DL.Env → Prop) (P : α → DL.Env → Prop) : Out α → Prop
  | .ok x ρ => P x ρ
  | .ex e ρ => E e ρ
  | .st => False
abbrev NoE {β : Type} : Exn → β → Prop := fun _ _ => False
@[simp] theorem wo_ok {α : Type} {E : Exn → DL.Env → Prop} {P : α → DL.Env → Prop} {x : α} {ρ : DL.Env} : WO E P (.ok x ρ) = P x ρ := rfl
@[simp] theorem wo_ex {α : Type} {E : Exn → DL.Env → Prop} {P : α → DL.Env → Prop} {e : Exn} {ρ : DL.Env} : WO E P (.ex e ρ) = E e ρ := rfl
structure Ps where
  nx : DL.Env → Prop
  rt : D → DL.Env → Prop
  bk : DL.Env → Prop
  ct : DL.Env → Prop
  ex : Exn → DL.Env → Prop
def WP (Q : Ps) : Fl → Prop
  | .nx ρ => Q.nx ρ
  | .rt d ρ => Q.rt d ρ
  | .bk ρ => Q.bk ρ
  | .ct ρ => Q.ct ρ
  | .ex e ρ => Q.ex e ρ
  | .st => False
def WF (E : Exn → Option D → Prop) (P : D → Option D → Prop) : FR → Prop
  | .rt d io => P d io
  | .ex e io => E e io
  | .st => False
@[simp] theorem wf_rt {E : Exn → Option D → Prop} {P : D → Option D → Prop} {d : D} {io : Option D} : WF E P (.rt d io) = P d io := rfl
@[simp] theorem wf_exr {E : Exn → Option D → Prop} {P : D → Option D → Prop} {e : Exn} {io : Option D} : WF E P (.ex e io) = E e io := rfl
theorem WF.mono {E : Exn → Option D → Prop} {P R : D → Option D → Prop} {r : FR} (h : WF NoE P r) (i : ∀ d io, P d io → R d io) : WF E R r := by
  cases r with
  | rt d io => exact i d io h
  | ex e io => exact h.elim
  | st => exact h
theorem wf_eq {r : FR} {d : D} {io : Option D} (h : WF NoE (fun d' io' => d' = d ∧ io' = io) r) : r = .rt d io := by
  cases r with
  | rt d' io' => obtain ⟨a, b⟩ := h; subst a b; rfl
  | ex e io => exact h.elim
  | st => exact h.elim
section
variable {E : Exn → DL.Env → Prop} {P : D → DL.Env → Prop} {PB : Bool → DL.Env → Prop} {PA : List Ag → DL.Env → Prop} {PL : List D → DL.Env → Prop} {ρ : DL.Env} {i j n : Nat} {f fa fb : DL.Env → Out D} {t u : DL.Env → Out Bool} {g : DL.Env → Out (List Ag)} {x : At}
@[simp] theorem w_C : WO E P (dC x ρ) = P (.a x) ρ := rfl
@[simp] theorem w_Var : WO E P (dVar i ρ) = SO (ρ[i]?) (fun o => SO o fun d => isF d = true ∧ P d ρ) := by
  unfold dVar
  split
  · rename_i d h
    rw [h]
    split
    · rename_i h2; simp [h2]
    · rename_i h2; simp [h2, WO]
  · rename_i h
    cases e : ρ[i]? with
    | none => rfl
    | some o =>
      cases o with
      | none => rfl
      | some d => exact absurd e (h d)
@[simp] theorem w_Peek : WO E P (dPeek i ρ) = SO (ρ[i]?) (fun o => SO o fun d => P d ρ) := by
  unfold dPeek
  split
  · rename_i d h
    rw [h]; rfl
  · rename_i h
    cases e : ρ[i]? with
    | none => rfl
    | some o =>
      cases o with
      | none => rfl
      | some d => exact absurd e (h d)
@[simp] theorem w_Fz : WO E P (dFz f ρ) = WO E (fun d ρ1 => P (frz d) ρ1) (f ρ) := by
  unfold dFz; cases f ρ <;> rfl
@[simp] theorem w_Op2 {g : D → D → Option D} : WO E P (dOp2 g fa fb ρ) = WO E (fun d1 ρ1 => WO E (fun d2 ρ2 => SO (g d1 d2) fun d => P d ρ2) (fb ρ1)) (fa ρ) := by
  unfold dOp2
  cases fa ρ with
  | st => rfl
  | ex e ρ1 => rfl
  | ok d1 ρ1 =>
    dsimp only [wo_ok]
    cases fb ρ1 with
    | st => rfl
    | ex e ρ2 => rfl
    | ok d2 ρ2 =>
      dsimp only [wo_ok]
      cases g d1 d2 <;> rfl
@[simp] theorem w_U {g : D → Option D} : WO E P (dU g fa ρ) = WO E (fun d1 ρ1 => SO (g d1) fun d => P d ρ1) (fa ρ) := by
  unfold dU
  cases fa ρ with
  | st => rfl
  | ex e ρ1 => rfl
  | ok d1 ρ1 => dsimp only [wo_ok]; cases g d1 <;> rfl
def asB (d : D) (P : Bool → Prop) : Prop := match d with
  | .a (.bl b) => P b
  | _ => False
@[simp] theorem asB_bl {b : Bool} {P : Bool → Prop} : asB (.a (.bl b)) P = P b := rfl
def asI (d : D) (P : Int → Prop) : Prop := match d with
  | .a (.int b) => P b
  | _ => False
@[simp] theorem asI_int {b : Int} {P : Int → Prop} : asI (.a (.int b)) P = P b := rfl
@[simp] theorem w_B : WO E PB (dB f ρ) = WO E (fun d ρ1 => asB d fun b => PB b ρ1) (f ρ) := by
  unfold dB
  cases f ρ with
  | st => rfl
  | ex e ρ1 => rfl
  | ok d ρ1 =>
    cases d with
    | n _ _ _ => rfl
    | a x => cases x <;> rfl
@[simp] theorem w_AndT : WO E PB (dAndT t u ρ) = WO E (fun b ρ1 => if b = true then WO E PB (u ρ1) else PB false ρ1) (t ρ) := by
  unfold dAndT
  cases t ρ with
  | st => rfl
  | ex e ρ1 => rfl
  | ok b ρ1 => cases b <;> rfl
@[simp] theorem w_OrT : WO E PB (dOrT t u ρ) = WO E (fun b ρ1 => if b = true then PB true ρ1 else WO E PB (u ρ1)) (t ρ) := by
  unfold dOrT
  cases t ρ with
  | st => rfl
  | ex e ρ1 => rfl
  | ok b ρ1 => cases b <;> rfl
@[simp] theorem w_NotT : WO E PB (dNotT t ρ) = WO E (fun b ρ1 => PB (!b) ρ1) (t ρ) := by
  unfold dNotT
  cases t ρ <;> rfl
@[simp] theorem w_AndV : WO E P (dAndV fa fb ρ) = WO E (fun d ρ1 => asB d fun b => if b = true then WO E P (fb ρ1) else P (.a (.bl false)) ρ1) (fa ρ) := by
  rw [← w_B]
  unfold dAndV
  cases dB fa ρ with
  | st => rfl
  | ex e ρ1 => rfl
  | ok b ρ1 => cases b <;> rfl
@[simp] theorem w_OrV : WO E P (dOrV fa fb ρ) = WO E (fun d ρ1 => asB d fun b => if b = true then P (.a (.bl true)) ρ1 else WO E P (fb ρ1)) (fa ρ) := by
  rw [← w_B]
  unfold dOrV
  cases dB fa ρ with
  | st => rfl
  | ex e ρ1 => rfl
  | ok b ρ1 => cases b <;> rfl
@[simp] theorem w_NotV : WO E P (dNotV fa ρ) = WO E (fun d ρ1 => asB d fun b => P (.a (.bl (!b))) ρ1) (fa ρ) := by
  rw [← w_B]
  unfold dNotV
  cases dB fa ρ <;> rfl
@[simp] theorem w_IfE : WO E P (dIfE t fa fb ρ) = WO E (fun b ρ1 => if b = true then WO E P (fa ρ1) else WO E P (fb ρ1)) (t ρ) := by
  unfold dIfE
  cases t ρ with
  | st => rfl
  | ex e ρ1 => rfl
  | ok b ρ1 => cases b <;> rfl
@[simp] theorem w_ANil : WO E PA (dANil ρ) = PA [] ρ := rfl
@[simp] theorem w_ACons : WO E PA (dACons f g ρ) = WO E (fun d ρ1 => WO E (fun ds ρ2 => PA (.d d :: ds) ρ2) (g ρ1)) (f ρ) := by
  unfold dACons
  cases f ρ with
  | st => rfl
  | ex e ρ1 => rfl
  | ok d ρ1 => dsimp only [wo_ok]; cases g ρ1 <;> rfl
@[simp] theorem w_ALent : WO E PA (dALent i g ρ) = SO (ρ[i]?) (fun o => SO o fun _ => WO E (fun ds ρ2 => PA (.s i :: ds) ρ2) (g ρ)) := by
  unfold dALent
  split
  · rename_i d h
    rw [h]
    dsimp only [so_some]
    cases g ρ <;> rfl
  · rename_i h
    cases e : ρ[i]? with
    | none => rfl
    | some o =>
      cases o with
      | none => rfl
      | some d => exact absurd e (h d)
@[simp] theorem w_Tup : WO E P (dTup g ρ) = WO E (fun ds ρ1 => SO (agL ds) fun xs => xs.length ≤ cap ∧ P (.tup (frzL xs)) ρ1) (g ρ) := by
  unfold dTup
  cases g ρ with
  | st => rfl
  | ex e ρ1 => rfl
  | ok ds ρ1 =>
    dsimp only [wo_ok]
    cases agL ds with
    | none => rfl
    | some xs =>
      dsimp only [so_some]
      split
      · rename_i h; simp [h]
      · rename_i h; simp only [h, false_and]; rfl
@[simp] theorem w_Lst : WO E P (dLst g ρ) = WO E (fun ds ρ1 => SO (agL ds) fun xs => xs.length ≤ cap ∧ P (.lst true xs) ρ1) (g ρ) := by
  unfold dLst
  cases g ρ with
  | st => rfl
  | ex e ρ1 => rfl
  | ok ds ρ1 =>
    dsimp only [wo_ok]
    cases agL ds with
    | none => rfl
    | some xs =>
      dsimp only [so_some]
      split
      · rename_i h; simp [h]
      · rename_i h; simp only [h, false_and]; rfl
@[simp] theorem w_Call {F : List D → FR} : WO E P (dCall n F g ρ) = WO E (fun ds ρ1 => SO (agL ds) fun xs => xs.length = n ∧ WF (fun e _ => E e ρ1) (fun d _ => P d ρ1) (F (frzL xs))) (g ρ) := by
  unfold dCall
  cases g ρ with
  | st => rfl
  | ex e ρ1 => rfl
  | ok ds ρ1 =>
    dsimp only [wo_ok]
    cases agL ds with
    | none => rfl
    | some xs =>
      dsimp only [so_some]
      split
      · rename_i h
        simp only [h, true_and]
        cases F (frzL xs) <;> rfl
      · rename_i h; simp only [h, false_and]; rfl
@[simp] theorem w_Call0 {F : List D → FR} : WO E P (dCall0 F ρ) = WF (fun e _ => E e ρ) (fun d _ => P d ρ) (F []) := by
  unfold dCall0
  cases F [] <;> rfl
@[simp] theorem w_CallL {F : List D → FR} {kio : Option Nat} : WO E P (dCallL n kio F g ρ) = WO E (fun ds ρ1 => SO (agL1 ds) fun p => SO (ρ1[p.2.1]?) fun o => SO o fun d0 => (kio = some p.1.length ∧ p.1.length + (p.2.2.length + 1) = n) ∧ WF (fun e io => SO io fun d1 => E e (ρ1.set p.2.1 (some d1))) (fun d io => SO io fun d1 => P d (ρ1.set p.2.1 (some d1))) (F (frzL p.1 ++ (d0 :: frzL p.2.2)))) (g ρ) := by
  unfold dCallL
  cases g ρ with
  | st => rfl
  | ex e ρ1 => rfl
  | ok ds ρ1 =>
    dsimp only [wo_ok]
    cases agL1 ds with
    | none => rfl
    | some p =>
      obtain ⟨xs, i, ys⟩ := p
      dsimp only [so_some]
      cases ρ1[i]? with
      | none => rfl
      | some o =>
        cases o with
        | none => rfl
        | some d0 =>
          dsimp only [so_some]
          split
          · rename_i h
            simp only [h, and_self, true_and]
            cases F (frzL xs ++ (d0 :: frzL ys)) with
            | st => rfl
            | ex e io => cases io <;> rfl
            | rt d io => cases io <;> rfl
          · rename_i h; simp only [h, false_and]; rfl
@[simp] theorem w_Make {F : List D → FR} {C : Str} : WO E P (dMake C n F g ρ) = WO E (fun ds ρ1 => SO (agL ds) fun xs => xs.length = n ∧ WF (fun e _ => E e ρ1) (fun d io => d = .a .non ∧ SO io fun d1 => P d1 ρ1) (F (.n (.ins C []) true [] :: frzL xs))) (g ρ) := by
  unfold dMake
  cases g ρ with
  | st => rfl
  | ex e ρ1 => rfl
  | ok ds ρ1 =>
    dsimp only [wo_ok]
    cases agL ds with
    | none => rfl
    | some xs =>
      dsimp only [so_some]
      split
      · rename_i h
        simp only [h, true_and]
        cases F (.n (.ins C []) true [] :: frzL xs) with
        | st => rfl
        | ex e io => rfl
        | rt d io =>
          cases io with
          | none => cases d with
            | n _ _ _ => simp [WF, WO, SO]
            | a x => cases x <;> simp [WF, WO, SO]
          | some d1 => cases d with
            | n _ _ _ => simp [WF, WO, SO]
            | a x => cases x <;> simp [WF, WO, SO]
      · rename_i h; simp only [h, false_and]; rfl
def asIns (d : D) (P : Str → List Str → List D → Prop) : Prop := match d with
  | .n (.ins C fs) false xs => P C fs xs
  | _ => False
@[simp] theorem asIns_ins {C : Str} {fs : List Str} {xs : List D} {P : Str → List Str → List D → Prop} : asIns (.n (.ins C fs) false xs) P = P C fs xs := rfl
@[simp] theorem w_Meth {F : List D → FR} {C m : Str} : WO E P (dMeth C m n F fa g ρ) = WO E (fun d ρ1 => asIns d fun C' fs xs => (C' = C ∧ m ∉ fs ∧ isFL xs = true) ∧ WO E P (dCall n (fun ds => F (.n (.ins C fs) false xs :: ds)) g ρ1)) (fa ρ) := by
  unfold dMeth
  cases fa ρ with
  | st => rfl
  | ex e ρ1 => rfl
  | ok d ρ1 =>
    cases d with
    | a x => rfl
    | n k o xs =>
      cases k with
      | ins C' fs =>
        cases o with
        | true => rfl
        | false =>
          dsimp only [wo_ok, asIns_ins]
          split
          · rename_i h; simp only [h, and_self, true_and, not_false_eq_true]
          · rename_i h; simp only [h, false_and]; rfl
      | tup => rfl
      | lst => rfl
      | scr => rfl
      | dct ks => rfl
@[simp] theorem w_Iter : WO E PL (dIter f ρ) = WO E (fun d ρ1 => SO (itemsOf d) fun xs => isF d = true ∧ PL xs ρ1) (f ρ) := by
  unfold dIter
  cases f ρ with
  | st => rfl
  | ex e ρ1 => rfl
  | ok d ρ1 =>
    dsimp only [wo_ok]
    cases itemsOf d with
    | none => rfl
    | some xs =>
      dsimp only [so_some]
      split
      · rename_i h; simp [h]
      · rename_i h; simp [h, WO]
@[simp] theorem w_Rng1 : WO E PL (dRng1 f ρ) = WO E (fun d ρ1 => asI d fun j => (-1000000 ≤ j ∧ j ≤ 1000000) ∧ PL (intL 0 j.toNat) ρ1) (f ρ) := by
  unfold dRng1
  cases f ρ with
  | st => rfl
  | ex e ρ1 => rfl
  | ok d ρ1 =>
    cases d with
    | n _ _ _ => rfl
    | a x =>
      cases x with
      | int j =>
        dsimp only [wo_ok, asI_int]
        split
        · rename_i h; simp [h]
        · rename_i h; simp only [h, false_and]; rfl
      | non => rfl
      | bl b => rfl
      | str s => rfl
@[simp] theorem w_Rng2 : WO E PL (dRng2 fa fb ρ) = WO E (fun d ρ1 => asI d fun i => WO E (fun d2 ρ2 => asI d2 fun j => ((-1000000 ≤ i ∧ i ≤ 1000000) ∧ -1000000 ≤ j ∧ j ≤ 1000000) ∧ PL (intL i (j - i).toNat) ρ2) (fb ρ1)) (fa ρ) := by
  unfold dRng2
  cases fa ρ with
  | st => rfl
  | ex e ρ1 => rfl
  | ok d ρ1 =>
    cases d with
    | n _ _ _ => rfl
    | a x =>
      cases x with
      | int i =>
        dsimp only [wo_ok, asI_int]
        cases fb ρ1 with
        | st => rfl
        | ex e ρ2 => rfl
        | ok d2 ρ2 =>
          cases d2 with
          | n _ _ _ => rfl
          | a y =>
            cases y with
            | int j =>
              dsimp only [wo_ok, asI_int]
              split
              · rename_i h; simp [h]
              · rename_i h; simp only [h, false_and]; rfl
            | non => rfl
            | bl b => rfl
            | str s => rfl
      | non => rfl
      | bl b => rfl
      | str s => rfl
@[simp] theorem w_Dp : WO E P (dDp f ρ) = WO E (fun d ρ1 => isF d = true ∧ P d ρ1) (f ρ) := by
  unfold dDp
  cases f ρ with
  | st => rfl
  | ex e ρ1 => rfl
  | ok d ρ1 =>
    dsimp only [wo_ok]
    split
    · rename_i h; simp [h]
    · rename_i h; simp [h, WO]
@[simp] theorem w_IxP {q : DL.Env → Option At} : WO E P (dIxP fa q ρ) = WO E (fun x ρ1 => SO (q ρ1) fun k => SO (gIxO x (.a k)) fun d => P d ρ1) (fa ρ) := by
  unfold dIxP
  cases fa ρ with
  | st => rfl
  | ex e ρ1 => rfl
  | ok d ρ1 =>
    dsimp only [wo_ok]
    cases q ρ1 with
    | none => rfl
    | some k => dsimp only [so_some]; cases gIxO d (.a k) <;> rfl
@[simp] theorem w_IxS : WO E P (dIxS i fb ρ) = WO E (fun k ρ1 => SO (ρ1[i]?) fun o => SO o fun x => SO (gIxO x k) fun d => P d ρ1) (fb ρ) := by
  unfold dIxS
  cases fb ρ with
  | st => rfl
  | ex e ρ1 => rfl
  | ok k ρ1 =>
    dsimp only [wo_ok]
    cases ρ1[i]? with
    | none => rfl
    | some o =>
      cases o with
      | none => rfl
      | some x => dsimp only [so_some]; cases gIxO x k <;> rfl
@[simp] theorem w_IxV : WO E P (dIxV i fb ρ) = SO (ρ[i]?) (fun o => SO o fun _ => WO E (fun k ρ1 => SO (ρ1[i]?) fun o => SO o fun x => SO (gIxO x k) fun d => isF d = true ∧ P d ρ1) (fb ρ)) := by
  unfold dIxV
  split
  · rename_i y h
    rw [h]
    dsimp only [so_some]
    rw [← w_IxS]
    cases dIxS i fb ρ with
    | st => rfl
    | ex e ρ1 => rfl
    | ok d ρ1 =>
      dsimp only [wo_ok]
      split
      · rename_i h; simp [h]
      · rename_i h; simp [h, WO]
  · rename_i h
    cases e : ρ[i]? with
    | none => rfl
    | some o =>
      cases o with
      | none => rfl
      | some d => exact absurd e (h d)
@[simp] theorem w_PopAt : WO E P (dPopAt i fb ρ) = SO (ρ[i]?) (fun o => SO o fun x => (match x with | .n .lst true _ => True | _ => False) ∧ WO E (fun k ρ1 => asI k fun z => SO (ρ1[i]?) fun o => SO o fun x => (match x with
    | .n .lst true xs => (-1000000 ≤ z ∧ z ≤ 1000000) ∧ SO (seqIndex? z xs.length) fun j => SO (xs[j]?) fun d => P d (ρ1.set i (some (.lst true (xs.eraseIdx j))))
    | _ => False)) (fb ρ)) := by
  unfold dPopAt
  split
  · rename_i ys h
    rw [h]
    dsimp only [so_some]
    rw [true_and]
    cases fb ρ with
    | st => rfl
    | ex e ρ1 => rfl
    | ok k ρ1 =>
      cases k with
      | n _ _ _ => rfl
      | a y =>
        cases y with
        | int z =>
          dsimp only [wo_ok, asI_int]
          split
          · rename_i xs h2
            rw [h2]
            dsimp only [so_some]
            split
            · rename_i h3
              simp only [h3, and_self, true_and]
              cases seqIndex? z xs.length with
              | none => rfl
              | some j => dsimp only [so_some]; cases xs[j]? <;> rfl
            · rename_i h3; simp only [h3, false_and]; rfl
          · rename_i h2
            cases e : ρ1[i]? with
            | none => rfl
            | some o =>
              cases o with
              | none => rfl
              | some d =>
                cases d with
                | a x => rfl
                | n k o xs =>
                  cases k with
                  | lst => cases o with
                    | true => exact absurd e (h2 xs)
                    | false => rfl
                  | _ => rfl
        | non => rfl
        | bl b => rfl
        | str s => rfl
  · rename_i h
    cases e : ρ[i]? with
    | none => rfl
    | some o =>
      cases o with
      | none => rfl
      | some d =>
        cases d with
        | a x => simp [WO, SO]
        | n k o xs =>
          cases k with
          | lst => cases o with
            | true => exact absurd e (h xs)
            | false => simp [WO, SO]
          | _ => simp [WO, SO]
end
theorem dPart_some {f : DL.Env → Out D} {ρ : DL.Env} {P : Option Int → DL.Env → Prop} : WO E P (dPart (some f) ρ) = WO E (fun d ρ1 => asI d fun i => P (some i) ρ1) (f ρ) := by
  unfold dPart
  dsimp only
  cases f ρ with
  | st => rfl
  | ex e ρ1 => rfl
  | ok d ρ1 =>
    cases d with
    | n _ _ _ => rfl
    | a x => cases x <;> rfl
@[simp] theorem w_part0 {ρ : DL.Env} {P : Option Int → DL.Env → Prop} : WO E P (dPart none ρ) = P none ρ := rfl
@[simp] theorem w_part1 {f : DL.Env → Out D} {ρ : DL.Env} {P : Option Int → DL.Env → Prop} : WO E P (dPart (some f) ρ) = WO E (fun d ρ1 => asI d fun i => P (some i) ρ1) (f ρ) := dPart_some
@[simp] theorem w_Sl {P : D → DL.Env → Prop} {fa : DL.Env → Out D} {lo hi : Option (DL.Env → Out D)} {ρ : DL.Env} : WO E P (dSl fa lo hi ρ) = WO E (fun x ρ1 => WO E (fun l ρ2 => WO E (fun u ρ3 => SO (gSl x l u) fun d => P d ρ3) (dPart hi ρ2)) (dPart lo ρ1)) (fa ρ) := by
  unfold dSl
  cases fa ρ with
  | st => rfl
  | ex e ρ1 => rfl
  | ok x ρ1 =>
    dsimp only [wo_ok]
    cases dPart lo ρ1 with
    | st => rfl
    | ex e ρ2 => rfl
    | ok l ρ2 =>
      dsimp only [wo_ok]
      cases dPart hi ρ2 with
      | st => rfl
      | ex e ρ3 => rfl
      | ok u ρ3 => dsimp only [wo_ok]; cases gSl x l u <;> rfl
@[simp] theorem w_Lc {P : D → DL.Env → Prop} {vs : List Nat} {src : DL.Env → Out (List D)} {g : D → DL.Env → Option DL.Env} {t : DL.Env → Out Bool} {f : DL.Env → Out D} {ρ : DL.Env} :
    WO E P (dLc vs src g t f ρ) = WO E (fun ds ρ1 => ds.length ≤ cap ∧ WO NoE (fun ys ρ2 => P (.lst true ys) (backE ρ1 vs (wipeE ρ2 vs))) (lcL vs g t f ds (wipeE ρ1 vs))) (src ρ) := by
  unfold dLc
  cases src ρ with
  | st => rfl
  | ex e ρ1 => rfl
  | ok ds ρ1 =>
    dsimp only [wo_ok]
    split
    · rename_i h
      simp only [h, true_and]
      cases lcL vs g t f ds (wipeE ρ1 vs) <;> rfl
    · rename_i h; simp only [h, false_and]; rfl
theorem lcL_run {vs : List Nat} {g : D → DL.Env → Option DL.Env} {t : DL.Env → Out Bool} {f : DL.Env → Out D} {ρ : DL.Env} (tb : D → Bool) (fv : D → D) : ∀ (ds : List D),
    (∀ d ∈ ds, SO (g d ρ) fun ρ1 => WO NoE (fun b ρ2 => b = tb d ∧ (if tb d = true then WO NoE (fun y ρ3 => y = fv d ∧ wipeE ρ3 vs = ρ) (f ρ2) else wipeE ρ2 vs = ρ)) (t ρ1)) →
    lcL vs g t f ds ρ = .ok ((ds.filter tb).map fv) ρ
  | [], _ => rfl
  | d :: ds, h => by
    have ih := lcL_run tb fv ds fun e he => h e (List.mem_cons_of_mem _ he)
    have h0 := h d (by simp)
    unfold lcL
    cases hg : g d ρ with
    | none => rw [hg] at h0; exact h0.elim
    | some ρ1 =>
      rw [hg] at h0
      dsimp only [so_some] at h0 ⊢
      cases ht : t ρ1 with
      | st => rw [ht] at h0; exact h0.elim
      | ex e ρ2 => rw [ht] at h0; exact h0.elim
      | ok b ρ2 =>
        rw [ht] at h0
        obtain ⟨e1, h1⟩ := h0
        subst e1
        cases hb : tb d with
        | false =>
          rw [hb, if_neg Bool.false_ne_true] at h1
          dsimp only
          rw [h1, ih, List.filter_cons, hb]
          rfl
        | true =>
          rw [hb, if_pos rfl] at h1
          dsimp only
          cases hf : f ρ2 with
          | st => rw [hf] at h1; exact h1.elim
          | ex e ρ3 => rw [hf] at h1; exact h1.elim
          | ok y ρ3 =>
            rw [hf] at h1
            obtain ⟨e2, e3⟩ := h1
            subst e2
            dsimp only
            rw [e3, ih, List.filter_cons, hb]
            rfl
section
variable {Q : Ps} {ρ : DL.Env} {i j n : Nat} {f g : DL.Env → Fl} {fa fb : DL.Env → Out D} {t : DL.Env → Out Bool} {d : D}
@[simp] theorem p_nx : WP Q (.nx ρ) = Q.nx ρ := rfl
@[simp] theorem p_rt : WP Q (.rt d ρ) = Q.rt d ρ := rfl
@[simp] theorem p_Next : WP Q (dNext ρ) = Q.nx ρ := rfl
@[simp] theorem p_Break : WP Q (dBreak ρ) = Q.bk ρ := rfl
@[simp] theorem p_Cont : WP Q (dCont ρ) = Q.ct ρ := rfl
@[simp] theorem p_No : WP Q (dNo ρ) = False := rfl
@[simp] theorem p_Seq : WP Q (dSeq f g ρ) = WP ⟨fun ρ1 => WP Q (g ρ1), Q.rt, Q.bk, Q.ct, Q.ex⟩ (f ρ) := by
  unfold dSeq; cases f ρ <;> rfl
@[simp] theorem p_Bind {h : D → DL.Env → Fl} : WP Q (dBind fa h ρ) = WO Q.ex (fun d ρ1 => WP Q (h d ρ1)) (fa ρ) := by
  unfold dBind; cases fa ρ <;> rfl
@[simp] theorem p_If : WP Q (dIf t f g ρ) = WO Q.ex (fun b ρ1 => if b = true then WP Q (f ρ1) else WP Q (g ρ1)) (t ρ) := by
  unfold dIf
  cases t ρ with
  | st => rfl
  | ex e ρ1 => rfl
  | ok b ρ1 => cases b <;> rfl
@[simp] theorem p_Set : WP Q (stSet i d ρ) = (i < ρ.length ∧ Q.nx (ρ.set i (some d))) := by
  unfold stSet
  split
  · rename_i h; simp [h]
  · rename_i h; simp only [h, false_and]; rfl
@[simp] theorem p_RetMv : WP Q (dRetMv i ρ) = SO (ρ[i]?) (fun o => SO o fun d => Q.rt d (ρ.set i none)) := by
  unfold dRetMv
  split
  · rename_i d h; rw [h]; rfl
  · rename_i h
    cases e : ρ[i]? with
    | none => rfl
    | some o =>
      cases o with
      | none => rfl
      | some d => exact absurd e (h d)
def asL (d : D) (P : List D → Prop) : Prop := match d with
  | .n .lst true xs => P xs
  | _ => False
@[simp] theorem asL_lst {xs : List D} {P : List D → Prop} : asL (.n .lst true xs) P = P xs := rfl
theorem asL_cases {d : D} {P : List D → Prop} (h : ∀ xs, d ≠ .n .lst true xs) : asL d P = False := by
  cases d with
  | a x => rfl
  | n k o xs =>
    cases k with
    | lst => cases o with
      | true => exact absurd rfl (h xs)
      | false => rfl
    | _ => rfl
@[simp] theorem p_App : WP Q (stApp i d ρ) = SO (ρ[i]?) (fun o => SO o fun x => asL x fun xs => xs.length < cap ∧ Q.nx (ρ.set i (some (.lst true (xs ++ [d]))))) := by
  unfold stApp
  split
  · rename_i xs h
    rw [h]
    dsimp only [so_some, asL_lst]
    split
    · rename_i h; simp [h]
    · rename_i h; simp only [h, false_and]; rfl
  · rename_i h
    cases e : ρ[i]? with
    | none => rfl
    | some o =>
      cases o with
      | none => rfl
      | some d =>
        dsimp only [so_some]
        rw [asL_cases fun xs z => h xs (by rw [e, z])]
        rfl
@[simp] theorem p_Sub : WP Q (stSub i fb d ρ) = SO (ρ[i]?) (fun o => SO o fun x => asL x fun _ => WO Q.ex (fun k ρ2 => asI k fun z => SO (ρ2[i]?) fun o => SO o fun x => asL x fun xs => SO (ixN xs.length z) fun j => Q.nx (ρ2.set i (some (.lst true (xs.set j d))))) (fb ρ)) := by
  unfold stSub
  split
  · rename_i ys h
    rw [h]
    dsimp only [so_some, asL_lst]
    cases fb ρ with
    | st => rfl
    | ex e ρ1 => rfl
    | ok k ρ1 =>
      cases k with
      | n _ _ _ => rfl
      | a y =>
        cases y with
        | int z =>
          dsimp only [wo_ok, asI_int]
          split
          · rename_i xs h2
            rw [h2]
            dsimp only [so_some, asL_lst]
            cases ixN xs.length z <;> rfl
          · rename_i h2
            cases e : ρ1[i]? with
            | none => rfl
            | some o =>
              cases o with
              | none => rfl
              | some d =>
                dsimp only [so_some]
                rw [asL_cases fun xs z => h2 xs (by rw [e, z])]
                rfl
        | non => rfl
        | bl b => rfl
        | str s => rfl
  · rename_i h
    cases e : ρ[i]? with
    | none => rfl
    | some o =>
      cases o with
      | none => rfl
      | some d =>
        dsimp only [so_some]
        rw [asL_cases fun xs z => h xs (by rw [e, z])]
        rfl
@[simp] theorem p_Tg {g : D → DL.Env → Option DL.Env} : WP Q (stTg g d ρ) = SO (g d ρ) Q.nx := by
  unfold stTg; cases g d ρ <;> rfl
@[simp] theorem s_tg1 {P : DL.Env → Prop} : SO (tg1 i d ρ) P = (i < ρ.length ∧ P (ρ.set i (some d))) := by
  unfold tg1
  split
  · rename_i h; simp [h]
  · rename_i h; simp [h]
@[simp] theorem tgT_tup {is : List Nat} {o : Bool} {xs : List D} : tgT is (.n .tup o xs) ρ = tgL is xs ρ := rfl
@[simp] theorem tgL_nil : tgL [] [] ρ = some ρ := rfl
@[simp] theorem s_tgL {P : DL.Env → Prop} {is : List Nat} {ds : List D} : SO (tgL (i :: is) (d :: ds) ρ) P = (i < ρ.length ∧ SO (tgL is ds (ρ.set i (some d))) P) := by
  conv => lhs; unfold tgL
  split
  · rename_i h; simp [h]
  · rename_i h; simp [h]
@[simp] theorem p_Has : WP Q (dHas i f ρ) = SO (ρ[i]?) (fun o => SO o fun x => (match x with | .n .lst _ _ => True | _ => False) ∧ WP Q (f ρ)) := by
  unfold dHas
  split
  · rename_i o xs h
    rw [h]
    simp
  · rename_i h
    cases e : ρ[i]? with
    | none => rfl
    | some o =>
      cases o with
      | none => rfl
      | some d =>
        cases d with
        | a x => simp [WP, SO]
        | n k o xs =>
          cases k with
          | lst => exact absurd e (h o xs)
          | _ => simp [WP, SO]
def frzAt (i : Nat) (ρ : DL.Env) : DL.Env := match ρ[i]? with
  | some (some d) => ρ.set i (some (frz d))
  | _ => ρ
@[simp] theorem frzAt_some {d : D} (h : ρ[i]? = some (some d)) : frzAt i ρ = ρ.set i (some (frz d)) := by
  unfold frzAt; rw [h]
@[simp] theorem frzAt_none (h : ρ[i]? = some none) : frzAt i ρ = ρ := by
  unfold frzAt; rw [h]
@[simp] theorem p_Frz : WP Q (dFrz i f ρ) = WP ⟨fun ρ1 => Q.nx (frzAt i ρ1), Q.rt, Q.bk, Q.ct, Q.ex⟩ (f ρ) := by
  unfold dFrz
  rw [p_Seq]
  congr 2
  funext ρ1
  unfold frzAt
  cases e : ρ1[i]? with
  | none => simp
  | some o => cases o <;> simp
@[simp] theorem p_Fld {C x : Str} : WP Q (stFld C x i d ρ) = SO (ρ[i]?) (fun o => SO o fun y => (match y with
    | .n (.ins C' fs) true xs => (C' = C ∧ x ∉ fs ∧ xs.length < 900) ∧ Q.nx (ρ.set i (some (.n (.ins C (fs ++ [x])) true (xs ++ [d]))))
    | _ => False)) := by
  unfold stFld
  split
  · rename_i C' fs xs h
    rw [h]
    dsimp only [so_some]
    split
    · rename_i h; simp only [h, and_self, true_and, not_false_eq_true]; rfl
    · rename_i h; simp only [h, false_and]; rfl
  · rename_i h
    cases e : ρ[i]? with
    | none => rfl
    | some o =>
      cases o with
      | none => rfl
      | some d =>
        cases d with
        | a x => rfl
        | n k o xs =>
          cases k with
          | ins C' fs => cases o with
            | true => exact absurd e (h C' fs xs)
            | false => rfl
          | _ => rfl
@[simp] theorem p_For {src : DL.Env → Out (List D)} {g : D → DL.Env → Option DL.Env} : WP Q (dFor src g f ρ) = WO Q.ex (fun ds ρ1 => WP Q (forL g f ds ρ1)) (src ρ) := by
  unfold dFor; cases src ρ <;> rfl
theorem wp_for {g : D → DL.Env → Option DL.Env} {ds : List D} (I : Nat → DL.Env → Prop) (h0 : I 0 ρ)
    (hs : ∀ i d ρ, ds[i]? = some d → I i ρ → SO (g d ρ) fun ρ1 => WP ⟨I (i + 1), Q.rt, Q.nx, I (i + 1), Q.ex⟩ (f ρ1)) (he : ∀ ρ, I ds.length ρ → Q.nx ρ) : WP Q (forL g f ds ρ) := by
  have key : ∀ (es : List D) (k : Nat) (ρ : DL.Env), (∀ i, es[i]? = ds[k + i]?) → k + es.length = ds.length → I k ρ → WP Q (forL g f es ρ) := by
    intro es
    induction es with
    | nil =>
      intro k ρ _ hl hI
      have : k = ds.length := by simpa using hl
      subst this
      exact he ρ hI
    | cons d es ih =>
      intro k ρ hd hl hI
      have h1 : ds[k]? = some d := by
        have := hd 0
        simpa using this.symm
      have h2 := hs k d ρ h1 hI
      have nxt : ∀ ρ2, I (k + 1) ρ2 → WP Q (forL g f es ρ2) := fun ρ2 hI2 => ih (k + 1) ρ2 (fun i => by
        have := hd (i + 1)
        rw [List.getElem?_cons_succ] at this
        rw [this]
        congr 1
        omega) (by simp at hl; omega) hI2
      unfold forL
      cases hg : g d ρ with
      | none => rw [hg] at h2; exact h2.elim
      | some ρ1 =>
        rw [hg] at h2
        dsimp only [so_some] at h2 ⊢
        cases hb : f ρ1 with
        | nx ρ2 => rw [hb] at h2; exact nxt ρ2 h2
        | ct ρ2 => rw [hb] at h2; exact nxt ρ2 h2
        | bk ρ2 => rw [hb] at h2; exact h2
        | rt d ρ2 => rw [hb] at h2; exact h2
        | ex e ρ2 => rw [hb] at h2; exact h2
        | st => rw [hb] at h2; exact h2
  exact key ds 0 ρ (fun i => by rw [Nat.zero_add]) (by omega) h0
end
theorem wf_fn {n : Nat} {kio : Option Nat} {body : DL.Env → Fl} {ds : List D} {E : Exn → Option D → Prop} {P : D → Option D → Prop} : WF E P (fnD n kio body ds) = WP ⟨fun ρ => P .non (ioOf kio ρ), fun d ρ => P d (ioOf kio ρ), fun _ => False, fun _ => False, fun e ρ => E e (ioOf kio ρ)⟩ (body (ds.map some ++ List.replicate (n - ds.length) none)) := by
  unfold fnD
  cases body (ds.map some ++ List.replicate (n - ds.length) none) <;> rfl
section
variable {i j : Int} {a b : Bool} {P : D → Prop}
@[simp] theorem o_add : SO (gAdd (.a (.int i)) (.a (.int j))) P = P (.a (.int (i + j))) := rfl
@[simp] theorem o_sub : SO (gSub (.a (.int i)) (.a (.int j))) P = P (.a (.int (i - j))) := rfl
@[simp] theorem o_mul : SO (gMul (.a (.int i)) (.a (.int j))) P = (mulOk i j = true ∧ P (.a (.int (i * j)))) := by
  unfold gMul gOr gMulI gII
  cases h : mulOk i j <;> simp [h, gRep]
@[simp] theorem o_fdiv : SO (gFdiv (.a (.int i)) (.a (.int j))) P = (divOk i j = true ∧ P (.a (.int (i / j)))) := by
  unfold gFdiv gII
  cases h : divOk i j <;> simp [h]
@[simp] theorem o_mod : SO (gMod (.a (.int i)) (.a (.int j))) P = (0 < j ∧ P (.a (.int (i % j)))) := by
  unfold gMod gII
  by_cases h : 0 < j <;> simp [h]
@[simp] theorem o_shl : SO (gShl (.a (.int i)) (.a (.int j))) P = (powOk i j = true ∧ P (.a (.int (i * 2 ^ j.toNat)))) := by
  unfold gShl gII
  cases h : powOk i j <;> simp [h]
@[simp] theorem o_shr : SO (gShr (.a (.int i)) (.a (.int j))) P = (0 ≤ j ∧ P (.a (.int (i / 2 ^ j.toNat)))) := by
  unfold gShr gII
  by_cases h : 0 ≤ j <;> simp [h]
@[simp] theorem o_and : SO (gAnd (.a (.int i)) (.a (.int j))) P = P (.a (.int (Builtin.bitAnd i j))) := rfl
@[simp] theorem o_or : SO (gOrB (.a (.int i)) (.a (.int j))) P = P (.a (.int (Builtin.bitOr i j))) := rfl
@[simp] theorem o_lt : SO (gLt (.a (.int i)) (.a (.int j))) P = P (.a (.bl (decide (i < j)))) := rfl
@[simp] theorem o_le : SO (gLe (.a (.int i)) (.a (.int j))) P = P (.a (.bl (decide (i ≤ j)))) := rfl
@[simp] theorem o_gt : SO (gGt (.a (.int i)) (.a (.int j))) P = P (.a (.bl (decide (j < i)))) := rfl
@[simp] theorem o_ge : SO (gGe (.a (.int i)) (.a (.int j))) P = P (.a (.bl (decide (j ≤ i)))) := rfl
@[simp] theorem o_eqI : SO (gEq (.a (.int i)) (.a (.int j))) P = P (.a (.bl (decide (i = j)))) := by
  show P (.a (.bl (decide (At.int i = At.int j)))) = _
  congr 3
  simp
@[simp] theorem o_neI : SO (gNe (.a (.int i)) (.a (.int j))) P = P (.a (.bl (!decide (i = j)))) := by
  show P (.a (.bl (!decide (At.int i = At.int j)))) = _
  congr 4
  simp
@[simp] theorem o_eqB : SO (gEq (.a (.bl a)) (.a (.bl b))) P = P (.a (.bl (decide (a = b)))) := by
  show P (.a (.bl (decide (At.bl a = At.bl b)))) = _
  congr 3
  simp
@[simp] theorem o_neB : SO (gNe (.a (.bl a)) (.a (.bl b))) P = P (.a (.bl (!decide (a = b)))) := by
  show P (.a (.bl (!decide (At.bl a = At.bl b)))) = _
  congr 4
  simp
@[simp] theorem o_abs : SO (gAbs (.a (.int i))) P = P (.a (.int (if i < 0 then -i else i))) := rfl
@[simp] theorem o_neg : SO (gNeg (.a (.int i))) P = P (.a (.int (-i))) := rfl
@[simp] theorem o_int : SO (gInt (.a (.int i))) P = P (.a (.int i)) := rfl
@[simp] theorem o_bits : SO (gBits (.a (.int i))) P = P (.a (.int (Builtin.Int.intBits i : Nat))) := rfl
@[simp] theorem o_lenL {o : Bool} {xs : List D} : SO (gLen (.n .lst o xs)) P = P (.a (.int xs.length)) := rfl
@[simp] theorem o_lenT {o : Bool} {xs : List D} : SO (gLen (.n .tup o xs)) P = P (.a (.int xs.length)) := rfl
@[simp] theorem o_tupT {o : Bool} {xs : List D} : SO (gTuple (.n .tup o xs)) P = P (.tup xs) := rfl
@[simp] theorem o_tupL {o : Bool} {xs : List D} : SO (gTuple (.n .lst o xs)) P = (isFL xs = true ∧ P (.tup xs)) := by
  unfold gTuple
  cases h : isFL xs <;> simp [h]
@[simp] theorem o_isi {T : String} {d : D} {t : String} (h : tyN d = some t) : SO (gIsi T d) P = P (.a (.bl (isiT t T))) := by
  unfold gIsi
  rw [h]; rfl
@[simp] theorem o_lrng : SO (gLRng (.a (.int i))) P = ((-4611686018427387904 ≤ i ∧ i ≤ 16777216) ∧ P (.lst true (intL 0 i.toNat))) := by
  unfold gLRng
  by_cases h : -4611686018427387904 ≤ i ∧ i ≤ 16777216 <;> simp [h]
end
@[simp] theorem isFL_nil : isFL [] = true := rfl
@[simp] theorem isFL_cons {x : D} {xs : List D} : isFL (x :: xs) = (isF x && isFL xs) := rfl
@[simp] theorem isF_a {x : At} : isF (.a x) = true := rfl
@[simp] theorem isF_n {k : Kd} {o : Bool} {xs : List D} : isF (.n k o xs) = (!o && isFL xs) := rfl
theorem isFL_all : ∀ {xs : List D}, isFL xs = true ↔ ∀ x ∈ xs, isF x = true
  | [] => by simp
  | x :: xs => by simp [isFL_all (xs := xs)]
@[simp] theorem isFL_map {α : Type} {f : α → D} {l : List α} (h : ∀ x, isF (f x) = true) : isFL (l.map f) = true := isFL_all.mpr fun x hx => by
  obtain ⟨y, _, e⟩ := List.mem_map.mp hx
  rw [← e]; exact h y
@[simp] theorem frzL_nil : frzL [] = [] := rfl
@[simp] theorem frzL_cons {x : D} {xs : List D} : frzL (x :: xs) = frz x :: frzL xs := rfl
@[simp] theorem frzL_map {α : Type} {f : α → D} {l : List α} (h : ∀ x, isF (f x) = true) : frzL (l.map f) = l.map f := frzL_isFL _ (isFL_map h)
@[simp] theorem frzL_ints {l : List Int} : frzL (l.map D.int) = l.map D.int := frzL_map fun _ => rfl
@[simp] theorem isFL_ints {l : List Int} : isFL (l.map D.int) = true := isFL_map fun _ => rfl
@[simp] theorem capv : cap = 1000000 := rfl
@[simp] theorem frz_a {x : At} : frz (.a x) = .a x := rfl
@[simp] theorem frz_n {k : Kd} {o : Bool} {xs : List D} : frz (.n k o xs) = .n k false (frzL xs) := rfl
@[simp] theorem agL_nil : agL [] = some [] := rfl
@[simp] theorem agL_cons {x : D} {xs : List Ag} : agL (.d x :: xs) = (agL xs).map (x :: ·) := rfl
@[simp] theorem agL1_s {i : Nat} {xs : List Ag} : agL1 (.s i :: xs) = (agL xs).map fun p => ([], i, p) := rfl
@[simp] theorem agL1_d {x : D} {xs : List Ag} : agL1 (.d x :: xs) = (agL1 xs).map fun p => (x :: p.1, p.2) := rfl
@[simp] theorem q_C {x : At} {ρ : DL.Env} : qC x ρ = some x := rfl
section
variable {Q : Ps} {ρ : DL.Env} {C f : Str} {ok : At → Bool} {e : Exn}
@[simp] theorem p_exr : WP Q (.ex e ρ) = Q.ex e ρ := rfl
@[simp] theorem p_Raise : WP Q (dRaise C ρ) = Q.ex ⟨C, []⟩ ρ := rfl
@[simp] theorem p_stRaise {x : At} : WP Q (stRaise C f ok (.a x) ρ) = (ok x = true ∧ Q.ex ⟨C, [(f, x)]⟩ ρ) := by
  unfold stRaise
  cases h : ok x <;> simp [h, WP]
@[simp] theorem p_Try {b : DL.Env → Fl} {hs : List Hd} : WP Q (dTry b hs ρ) = WP ⟨Q.nx, Q.rt, Q.bk, Q.ct, fun e ρ1 => WP Q (dCatch hs e ρ1)⟩ (b ρ) := by
  unfold dTry
  cases b ρ <;> rfl
@[simp] theorem p_catch0 : WP Q (dCatch [] e ρ) = Q.ex e ρ := rfl
theorem p_catch {m : List (Str × Bool)} {h : Exn → DL.Env → Fl} {r : List Hd} {b : Bool} (hl : m.lookup e.c = some b) : WP Q (dCatch ((C, m, h) :: r) e ρ) = if b = true then WP ⟨Q.nx, Q.rt, Q.bk, Q.ct, fun _ _ => False⟩ (h e ρ) else WP Q (dCatch r e ρ) := by
  conv => lhs; unfold dCatch
  rw [hl]
  cases b with
  | false => rfl
  | true =>
    dsimp only
    rw [if_pos rfl]
    cases h e ρ <;> rfl
@[simp] theorem p_hRet {i : Nat} {g : Exn → Option At} : WP Q (hRet i g e ρ) = SO (g e) fun x => i < ρ.length ∧ Q.rt (.a x) (ρ.set i none) := by
  unfold hRet
  cases g e with
  | none => rfl
  | some x =>
    dsimp only [so_some]
    split
    · rename_i h; simp [h]
    · rename_i h; simp [h, WP]
end
@[simp] theorem sF_one {C f : Str} {x : At} : sF C f ⟨C, [(f, x)]⟩ = some x := by simp [sF, List.lookup]
@[simp] theorem o_eqS {a b : Str} {P : D → Prop} : SO (gEq (.a (.str a)) (.a (.str b))) P = P (.a (.bl (decide (a = b)))) := by
  show P (.a (.bl (decide (At.str a = At.str b)))) = _
  congr 3
  simp
@[simp] theorem o_neS {a b : Str} {P : D → Prop} : SO (gNe (.a (.str a)) (.a (.str b))) P = P (.a (.bl (!decide (a = b)))) := by
  show P (.a (.bl (!decide (At.str a = At.str b)))) = _
  congr 4
  simp
@[simp] theorem o_isiA_ins {C C' : Str} {fs : List Str} {o : Bool} {xs : List D} {P : D → Prop} : SO (gIsiA C (.n (.ins C' fs) o xs)) P = (C' = C ∧ P (.a (.bl true))) := by
  unfold gIsiA
  by_cases h : C' = C <;> simp [h]
section
variable {E : Exn → DL.Env → Prop} {P : D → DL.Env → Prop} {PL : List D → DL.Env → Prop} {fa fb : DL.Env → Out D} {ρ : DL.Env} {Q : Ps} {i : Nat}
def asLst (d : D) (P : Bool → List D → Prop) : Prop := match d with
  | .n .lst o xs => P o xs
  | _ => False
@[simp] theorem asLst_lst {o : Bool} {xs : List D} {P : Bool → List D → Prop} : asLst (.n .lst o xs) P = P o xs := rfl
@[simp] theorem w_IndexL : WO E P (dIndexL fa fb ρ) = WO E (fun d1 ρ1 => asLst d1 fun o xs => WO E (fun d2 ρ2 => SO (gIndexL (.n .lst o xs) d2) fun d => P d ρ2) (fb ρ1)) (fa ρ) := by
  unfold dIndexL
  cases fa ρ with
  | st => rfl
  | ex e ρ1 => rfl
  | ok d1 ρ1 =>
    cases d1 with
    | a x => rfl
    | n k o xs =>
      cases k with
      | lst =>
        dsimp only [wo_ok, asLst_lst]
        cases fb ρ1 with
        | st => rfl
        | ex e ρ2 => rfl
        | ok d2 ρ2 =>
          dsimp only [wo_ok]
          cases gIndexL (.n .lst o xs) d2 <;> rfl
      | _ => rfl
@[simp] theorem w_RngD : WO E PL (dRngD fa fb ρ) = WO E (fun d ρ1 => asI d fun i => WO E (fun d2 ρ2 => asI d2 fun j => ((-1000000 ≤ i ∧ i ≤ 1000000) ∧ -1000000 ≤ j ∧ j ≤ 1000000) ∧ PL (intsC i (-1) (i - j).toNat) ρ2) (fb ρ1)) (fa ρ) := by
  unfold dRngD
  cases fa ρ with
  | st => rfl
  | ex e ρ1 => rfl
  | ok d ρ1 =>
    cases d with
    | n _ _ _ => rfl
    | a x =>
      cases x with
      | int i =>
        dsimp only [wo_ok, asI_int]
        cases fb ρ1 with
        | st => rfl
        | ex e ρ2 => rfl
        | ok d2 ρ2 =>
          cases d2 with
          | n _ _ _ => rfl
          | a y =>
            cases y with
            | int j =>
              dsimp only [wo_ok, asI_int]
              split
              · rename_i h; simp [h]
              · rename_i h; simp only [h, false_and]; rfl
            | non => rfl
            | bl b => rfl
            | str s => rfl
      | non => rfl
      | bl b => rfl
      | str s => rfl
@[simp] theorem p_Aug {h : Int → Int → Int} : WP Q (dAug i h fa ρ) = SO (ρ[i]?) (fun o => SO o fun x => asI x fun a => WO Q.ex (fun d ρ1 => asI d fun b => i < ρ1.length ∧ Q.nx (ρ1.set i (some (.a (.int (h a b)))))) (fa ρ)) := by
  unfold dAug
  cases e : ρ[i]? with
  | none => rfl
  | some o =>
    cases o with
    | none => rfl
    | some d =>
      cases d with
      | n _ _ _ => rfl
      | a x =>
        cases x with
        | int a =>
          dsimp only [so_some, asI_int]
          cases fa ρ with
          | st => rfl
          | ex e ρ1 => rfl
          | ok d ρ1 =>
            cases d with
            | n _ _ _ => rfl
            | a y =>
              cases y with
              | int b =>
                dsimp only [wo_ok, asI_int]
                exact p_Set
              | non => rfl
              | bl b => rfl
              | str s => rfl
        | non => rfl
        | bl b => rfl
        | str s => rfl
end
@[simp] theorem o_lenO_lst {C : Str} {F : List D → FR} {o : Bool} {xs : List D} {P : D → Prop} : SO (gLenO C F (.n .lst o xs)) P = P (.a (.int xs.length)) := rfl
@[simp] theorem o_lenO_tup {C : Str} {F : List D → FR} {o : Bool} {xs : List D} {P : D → Prop} : SO (gLenO C F (.n .tup o xs)) P = P (.a (.int xs.length)) := rfl
@[simp] theorem s_tgP2 {g1 g2 : D → DL.Env → Option DL.Env} {o : Bool} {a b : D} {ρ : DL.Env} {P : DL.Env → Prop} : SO (tgP g1 g2 (.n .tup o [a, b]) ρ) P = SO (g1 a ρ) fun ρ1 => SO (g2 b ρ1) P := by
  rw [s_tgP]
  cases g1 a ρ <;> rfl
section
variable {E : Exn → DL.Env → Prop} {P : D → DL.Env → Prop} {fa fb : DL.Env → Out D} {ρ : DL.Env} {C : Str} {F : List D → FR}
@[simp] theorem w_BinO : WO E P (dBinO C F fa fb ρ) = WO E (fun d ρ1 => asIns d fun C1 fs xs => (C1 = C ∧ isFL xs = true) ∧ WO E (fun d2 ρ2 => asIns d2 fun C2 gs ys => (C2 = C ∧ isFL ys = true) ∧ WF (fun e _ => E e ρ2) (fun d _ => P d ρ2) (F [.n (.ins C1 fs) false xs, .n (.ins C2 gs) false ys])) (fb ρ1)) (fa ρ) := by
  unfold dBinO
  cases fa ρ with
  | st => rfl
  | ex e ρ1 => rfl
  | ok d ρ1 =>
    cases d with
    | a x => rfl
    | n k o xs =>
      cases k with
      | ins C1 fs =>
        cases o with
        | true => rfl
        | false =>
          dsimp only [wo_ok, asIns_ins]
          split
          · rename_i h
            simp only [h, and_self, true_and]
            cases fb ρ1 with
            | st => rfl
            | ex e ρ2 => rfl
            | ok d2 ρ2 =>
              cases d2 with
              | a x => rfl
              | n k o ys =>
                cases k with
                | ins C2 gs =>
                  cases o with
                  | true => rfl
                  | false =>
                    dsimp only [wo_ok, asIns_ins]
                    split
                    · rename_i h2
                      simp only [h2, and_self, true_and]
                      cases F _ <;> rfl
                    · rename_i h2; simp only [h2, false_and]; rfl
                | tup => rfl
                | lst => rfl
                | scr => rfl
                | dct ks => rfl
          · rename_i h; simp only [h, false_and]; rfl
      | tup => rfl
      | lst => rfl
      | scr => rfl
      | dct ks => rfl
@[simp] theorem w_NegO : WO E P (dNegO C F fa ρ) = WO E (fun d ρ1 => asIns d fun C1 fs xs => (C1 = C ∧ isFL xs = true) ∧ WF (fun e _ => E e ρ1) (fun d _ => P d ρ1) (F [.n (.ins C1 fs) false xs])) (fa ρ) := by
  unfold dNegO
  cases fa ρ with
  | st => rfl
  | ex e ρ1 => rfl
  | ok d ρ1 =>
    cases d with
    | a x => rfl
    | n k o xs =>
      cases k with
      | ins C1 fs =>
        cases o with
        | true => rfl
        | false =>
          dsimp only [wo_ok, asIns_ins]
          split
          · rename_i h
            simp only [h, and_self, true_and]
            cases F _ <;> rfl
          · rename_i h; simp only [h, false_and]; rfl
      | tup => rfl
      | lst => rfl
      | scr => rfl
      | dct ks => rfl
end
section
variable {E : Exn → DL.Env → Prop} {P : D → DL.Env → Prop} {fa fb fc : DL.Env → Out D} {ρ : DL.Env} {Q : Ps} {i k : Nat} {is : List Nat}
@[simp] theorem w_Tmp : WO E P (dTmp is fa ρ) = WO (fun e _ => E e ρ) (fun d _ => noL d = true ∧ P d ρ) (fa (tmpE is 0 ρ)) := by
  unfold dTmp
  cases fa (tmpE is 0 ρ) with
  | st => rfl
  | ex e ρ1 => rfl
  | ok d ρ1 =>
    dsimp only [wo_ok]
    split
    · rename_i h; simp [h]
    · rename_i h; simp [h, WO]
@[simp] theorem tmpE_nil : tmpE is k [] = [] := rfl
@[simp] theorem tmpE_none : tmpE is k (none :: ρ) = none :: tmpE is (k + 1) ρ := rfl
@[simp] theorem tmpE_some {d : D} : tmpE is k (some d :: ρ) = (if k ∈ is ∧ okO d = true then some (frz d) else if isF d = true then some d else none) :: tmpE is (k + 1) ρ := rfl
@[simp] theorem okO_a {x : At} : okO (.a x) = true := rfl
@[simp] theorem okO_lst' {o : Bool} {xs : List D} : okO (.n .lst o xs) = okOL xs := by
  show ((!o || isLs .lst) && okOL xs) = _
  simp [isLs]
@[simp] theorem noL_a {x : At} : noL (.a x) = true := rfl
@[simp] theorem noL_tup {o : Bool} {xs : List D} : noL (.n .tup o xs) = noLL xs := by
  show (isTI .tup && noLL xs) = _
  simp [isTI]
@[simp] theorem noL_ins {C : Str} {fs : List Str} {o : Bool} {xs : List D} : noL (.n (.ins C fs) o xs) = noLL xs := by
  show (isTI (.ins C fs) && noLL xs) = _
  simp [isTI]
@[simp] theorem noLL_nil : noLL [] = true := rfl
@[simp] theorem noLL_cons {x : D} {xs : List D} : noLL (x :: xs) = (noL x && noLL xs) := rfl
@[simp] theorem w_Mv : WO E P (dMv i ρ) = SO (ρ[i]?) (fun o => SO o fun d => P d (ρ.set i none)) := by
  unfold dMv
  split
  · rename_i d h; rw [h]; rfl
  · rename_i h
    cases e : ρ[i]? with
    | none => rfl
    | some o =>
      cases o with
      | none => rfl
      | some d => exact absurd e (h d)
@[simp] theorem w_Pop0 : WO E P (dPop0 i ρ) = SO (ρ[i]?) (fun o => SO o fun x => asL x fun xs => SO (xs[xs.length - 1]?) fun d => P d (ρ.set i (some (.lst true (xs.eraseIdx (xs.length - 1)))))) := by
  unfold dPop0
  split
  · rename_i xs h
    rw [h]
    dsimp only [so_some, asL_lst]
    cases xs[xs.length - 1]? <;> rfl
  · rename_i h
    cases e : ρ[i]? with
    | none => rfl
    | some o =>
      cases o with
      | none => rfl
      | some d =>
        dsimp only [so_some]
        rw [asL_cases fun xs z => h xs (by rw [e, z])]
        rfl
def asDct (d : D) (P : List Key → Bool → List D → Prop) : Prop := match d with
  | .n (.dct ks) o xs => P ks o xs
  | _ => False
@[simp] theorem asDct_dct {ks : List Key} {o : Bool} {xs : List D} {P : List Key → Bool → List D → Prop} : asDct (.n (.dct ks) o xs) P = P ks o xs := rfl
theorem asDct_cases {d : D} {P : List Key → Bool → List D → Prop} (h : ∀ ks o xs, d ≠ .n (.dct ks) o xs) : asDct d P = False := by
  cases d with
  | a x => rfl
  | n k o xs =>
    cases k with
    | dct ks => exact absurd rfl (h ks o xs)
    | _ => rfl
def asKey (d : D) (P : Key → Prop) : Prop := match d with
  | .a x => SO (keyOf x) P
  | _ => False
@[simp] theorem asKey_int {j : Int} {P : Key → Prop} : asKey (.a (.int j)) P = P (.inl j) := rfl
@[simp] theorem asKey_str {s : Str} {P : Key → Prop} : asKey (.a (.str s)) P = P (.inr s) := rfl
@[simp] theorem w_DGet : WO E P (dDGet i fb ρ) = SO (ρ[i]?) (fun o => SO o fun x => asDct x fun _ _ _ => WO E (fun d ρ1 => asKey d fun k => SO (ρ1[i]?) fun o => SO o fun y => asDct y fun ks _ xs => SO (dctAt ks xs k) fun d => isF d = true ∧ P d ρ1) (fb ρ)) := by
  unfold dDGet
  split
  · rename_i k0 o0 xs0 h
    rw [h]
    dsimp only [so_some, asDct_dct]
    cases fb ρ with
    | st => rfl
    | ex e ρ1 => rfl
    | ok d ρ1 =>
      cases d with
      | n _ _ _ => rfl
      | a x =>
        dsimp only [wo_ok, asKey]
        cases keyOf x with
        | none => rfl
        | some k =>
          dsimp only [so_some]
          split
          · rename_i ks o1 xs hx
            rw [hx]
            dsimp only [so_some, asDct_dct]
            cases dctAt ks xs k with
            | none => rfl
            | some d =>
              dsimp only [so_some]
              split
              · rename_i hf; simp [hf]
              · rename_i hf; simp [hf, WO]
          · rename_i hx
            cases e : ρ1[i]? with
            | none => rfl
            | some o =>
              cases o with
              | none => rfl
              | some y =>
                dsimp only [so_some]
                rw [asDct_cases fun ks o xs z => hx ks o xs (by rw [e, z])]
                rfl
  · rename_i h
    cases e : ρ[i]? with
    | none => rfl
    | some o =>
      cases o with
      | none => rfl
      | some y =>
        dsimp only [so_some]
        rw [asDct_cases fun ks o xs z => h ks o xs (by rw [e, z])]
        rfl
@[simp] theorem w_DIn {neg : Bool} : WO E P (dDIn neg i fb ρ) = WO E (fun d ρ1 => asKey d fun k => SO (ρ1[i]?) fun o => SO o fun y => asDct y fun ks _ xs => ks.length = xs.length ∧ P (.a (.bl (if neg then !hasK k ks else hasK k ks))) ρ1) (fb ρ) := by
  unfold dDIn
  cases fb ρ with
  | st => rfl
  | ex e ρ1 => rfl
  | ok d ρ1 =>
    cases d with
    | n _ _ _ => rfl
    | a x =>
      dsimp only [wo_ok, asKey]
      cases keyOf x with
      | none => rfl
      | some k =>
        dsimp only [so_some]
        split
        · rename_i ks o1 xs hx
          rw [hx]
          dsimp only [so_some, asDct_dct]
          split
          · rename_i hf; simp [hf]
          · rename_i hf; simp [hf, WO]
        · rename_i hx
          cases e : ρ1[i]? with
          | none => rfl
          | some o =>
            cases o with
            | none => rfl
            | some y =>
              dsimp only [so_some]
              rw [asDct_cases fun ks o xs z => hx ks o xs (by rw [e, z])]
              rfl
@[simp] theorem w_DGet2 : WO E P (dDGet2 i fb fc ρ) = SO (ρ[i]?) (fun o => SO o fun x => asDct x fun _ _ _ => WO E (fun d ρ1 => (∃ x, d = .a x) ∧ WO E (fun c ρ2 => asKey d fun k => SO (ρ2[i]?) fun o => SO o fun y => asDct y fun ks _ xs => isF c = true ∧ (match dctAt ks xs k with | some d => isF d = true ∧ P d ρ2 | none => P c ρ2)) (fc ρ1)) (fb ρ)) := by
  unfold dDGet2
  split
  · rename_i k0 o0 xs0 h
    rw [h]
    dsimp only [so_some, asDct_dct]
    cases fb ρ with
    | st => rfl
    | ex e ρ1 => rfl
    | ok d ρ1 =>
      cases d with
      | n _ _ _ => simp [WO]
      | a x =>
        simp only [wo_ok, D.a.injEq, exists_eq', true_and]
        cases fc ρ1 with
        | st => rfl
        | ex e ρ2 => rfl
        | ok c ρ2 =>
          dsimp only [wo_ok, asKey]
          cases keyOf x with
          | none => rfl
          | some k =>
            dsimp only [so_some]
            split
            · rename_i ks o1 xs hx
              rw [hx]
              dsimp only [so_some, asDct_dct]
              cases dctAt ks xs k with
              | none =>
                dsimp only
                split
                · rename_i hf; simp [hf]
                · rename_i hf; simp [hf, WO]
              | some d =>
                dsimp only
                split
                · rename_i hf; simp [hf.1, hf.2]
                · rename_i hf
                  simp only [WO]
                  symm
                  rw [eq_iff_iff, iff_false]
                  exact fun q => hf ⟨q.2.1, q.1⟩
            · rename_i hx
              cases e : ρ2[i]? with
              | none => rfl
              | some o =>
                cases o with
                | none => rfl
                | some y =>
                  dsimp only [so_some]
                  rw [asDct_cases fun ks o xs z => hx ks o xs (by rw [e, z])]
                  rfl
  · rename_i h
    cases e : ρ[i]? with
    | none => rfl
    | some o =>
      cases o with
      | none => rfl
      | some y =>
        dsimp only [so_some]
        rw [asDct_cases fun ks o xs z => h ks o xs (by rw [e, z])]
        rfl
@[simp] theorem p_DPut {d : D} : WP Q (stDPut i fb d ρ) = SO (ρ[i]?) (fun o => SO o fun x => asDct x fun _ o0 _ => o0 = true ∧ WO Q.ex (fun k ρ2 => asKey k fun k => SO (ρ2[i]?) fun o => SO o fun y => asDct y fun ks o xs => o = true ∧ (((isF d = true ∧ isFL xs = true) ∧ xs.length < cap) ∧ Q.nx (ρ2.set i (some (.n (.dct (putKs ks k)) true (putXs ks xs k d)))))) (fb ρ)) := by
  unfold stDPut
  split
  · rename_i k0 xs0 h
    rw [h]
    simp only [so_some, asDct_dct, true_and]
    cases fb ρ with
    | st => rfl
    | ex e ρ1 => rfl
    | ok dk ρ1 =>
      cases dk with
      | n _ _ _ => rfl
      | a x =>
        dsimp only [wo_ok, asKey]
        cases keyOf x with
        | none => rfl
        | some k =>
          dsimp only [so_some]
          split
          · rename_i ks xs hx
            rw [hx]
            simp only [so_some, asDct_dct, true_and]
            split
            · rename_i hf; simp [hf]
            · rename_i hf
              simp only [WP]
              symm
              rw [eq_iff_iff, iff_false]
              exact fun q => hf q.1
          · rename_i hx
            cases e : ρ1[i]? with
            | none => rfl
            | some o =>
              cases o with
              | none => rfl
              | some y =>
                dsimp only [so_some]
                by_cases hy : ∃ ks xs, y = .n (.dct ks) true xs
                · obtain ⟨ks, xs, rfl⟩ := hy
                  exact absurd e (hx ks xs)
                · cases y with
                  | a x => rfl
                  | n kk oo xs =>
                    cases kk with
                    | dct ks =>
                      cases oo with
                      | true => exact absurd ⟨ks, xs, rfl⟩ hy
                      | false => simp [WP]
                    | _ => rfl
  · rename_i h
    cases e : ρ[i]? with
    | none => rfl
    | some o =>
      cases o with
      | none => rfl
      | some y =>
        dsimp only [so_some]
        cases y with
        | a x => rfl
        | n kk oo xs =>
          cases kk with
          | dct ks =>
            cases oo with
            | true => exact absurd e (h ks xs)
            | false => simp [WP]
          | _ => rfl
@[simp] theorem o_lenD {ks : List Key} {o : Bool} {xs : List D} {P : D → Prop} : SO (gLenD (.n (.dct ks) o xs)) P = P (.a (.int xs.length)) := rfl
@[simp] theorem w_Disp1 : WO E P (dDisp1 fb fc ρ) = WO E (fun d ρ1 => (∃ x, d = .a x) ∧ WO E (fun c ρ2 => asKey d fun k => isF c = true ∧ P (.n (.dct [k]) true [c]) ρ2) (fc ρ1)) (fb ρ) := by
  unfold dDisp1
  cases fb ρ with
  | st => rfl
  | ex e ρ1 => rfl
  | ok d ρ1 =>
    cases d with
    | n _ _ _ => simp [WO]
    | a x =>
      simp only [wo_ok, D.a.injEq, exists_eq', true_and]
      cases fc ρ1 with
      | st => rfl
      | ex e ρ2 => rfl
      | ok c ρ2 =>
        dsimp only [wo_ok, asKey]
        cases keyOf x with
        | none => rfl
        | some k =>
          dsimp only [so_some]
          split
          · rename_i hf; simp [hf]
          · rename_i hf; simp [hf, WO]
@[simp] theorem p_FzB {f : DL.Env → Fl} {d : D} (h : ρ[i]? = some (some d)) : WP Q (dFzB i f ρ) = WP Q (f (ρ.set i (some (frz d)))) := by
  unfold dFzB
  rw [h]
end
@[simp] theorem w_DGetE {E : Exn → DL.Env → Prop} {P : D → DL.Env → Prop} {fa fb : DL.Env → Out D} {ρ : DL.Env} : WO E P (dDGetE fa fb ρ) = WO E (fun d1 ρ1 => asDct d1 fun ks _ xs => WO E (fun d ρ2 => asKey d fun k => SO (dctAt ks xs k) fun d => isF d = true ∧ P d ρ2) (fb ρ1)) (fa ρ) := by
  unfold dDGetE
  cases fa ρ with
  | st => rfl
  | ex e ρ1 => rfl
  | ok d1 ρ1 =>
    cases d1 with
    | a x => rfl
    | n kk o xs =>
      cases kk <;> first
        | rfl
        | (dsimp only [wo_ok, asDct]
           cases fb ρ1 with
           | st => rfl
           | ex e ρ2 => rfl
           | ok d ρ2 =>
             cases d with
             | n _ _ _ => rfl
             | a x =>
               dsimp only [wo_ok, asKey]
               cases keyOf x with
               | none => rfl
               | some k =>
                 dsimp only [so_some]
                 cases dctAt _ xs k with
                 | none => rfl
                 | some d =>
                   dsimp only [so_some]
                   split
                   · rename_i h; simp [h]
                   · rename_i h; simp [h]; exact fun h => h)
@[simp] theorem o_trng {i : Int} {P : D → Prop} : SO (gTRng (.a (.int i))) P = ((-4611686018427387904 ≤ i ∧ i ≤ 16777216) ∧ P (.tup (intL 0 i.toNat))) := by
  unfold gTRng
  by_cases h : -4611686018427387904 ≤ i ∧ i ≤ 16777216 <;> simp [h]
@[simp] theorem o_divm {i j : Int} {P : D → Prop} : SO (gDivm (.a (.int i)) (.a (.int j))) P = ((0 < j ∧ j < 1073741824) ∧ P (.tup [.int (i / j), .int (i % j)])) := by
  unfold gDivm
  by_cases h : 0 < j ∧ j < 1073741824 <;> simp [h]
end DL
namespace DC
open PySem L2 DL
def B_has : DL.Env → Fl :=
  (dBind (dOp2 gEq (dOp2 gAnd (dOp2 gShr (dVar 0) (dVar 1)) (dC (.int 1))) (dC (.int 1))) fun d ρ => .rt d ρ)
def F_has : List D → FR := fnD 2 none B_has
def B_u_closed : DL.Env → Fl :=
  (dSeq (dBind (dOp2 gMul (dLst (dACons (dC (.int 0)) dANil)) (dVar 0)) (stSet 2))
  (dSeq (dFor (dIter (dVar 1)) (tgT [3, 4]) (dBind (dOp2 gOrB (dIxV 2 (dVar 3)) (dOp2 gShl (dC (.int 1)) (dVar 4))) (stSub 2 (dVar 3))))
  (dSeq (dFrz 2 (dFor (dRng1 (dVar 0)) (tg1 4) (dFor (dRng1 (dVar 0)) (tg1 3) (dIf (dB (dCall 2 F_has (dACons (dIxV 2 (dVar 3)) (dACons (dVar 4) dANil)))) (dBind (dOp2 gOrB (dIxV 2 (dVar 3)) (dIxV 2 (dVar 4))) (stSub 2 (dVar 3))) dNext))))
  (dSeq (dFor (dRng1 (dVar 0)) (tg1 3) (dIf (dB (dCall 2 F_has (dACons (dOp2 gIx (dVar 2) (dVar 3)) (dACons (dVar 3) dANil)))) (dBind (dC (.str "cycle")) (stRaise "Refused" "reason" DL.okStr)) dNext))
  (dBind (dU gTuple (dVar 2)) fun d ρ => .rt d ρ)))))
def F_u_closed : List D → FR := fnD 5 none B_u_closed
def B_is_integer : DL.Env → Fl :=
  (dBind (dAndV (dU (gIsi "int") (dVar 0)) (dNotV (dU (gIsi "bool") (dVar 0)))) fun d ρ => .rt d ρ)
def F_is_integer : List D → FR := fnD 1 none B_is_integer
def B_u_checked_pairs : DL.Env → Fl :=
  (dSeq (dIf (dNotT (dB (dU (gIsi2 "list" "tuple") (dVar 1)))) (dRaise "Malformed") dNext)
  (dSeq (dBind (dLst dANil) (stSet 2))
  (dSeq (dFrz 2 (dFor (dIter (dVar 1)) (tg1 3) (dSeq (dIf (dOrT (dNotT (dB (dU (gIsi "tuple") (dVar 3)))) (dB (dOp2 gNe (dU gLen (dVar 3)) (dC (.int 2))))) (dRaise "Malformed") dNext)
  (dSeq (dFor (dIter (dVar 3)) (tg1 4) (dIf (dOrT (dNotT (dB (dCall 1 F_is_integer (dACons (dVar 4) dANil)))) (dOrT (dB (dOp2 gLt (dVar 4) (dC (.int 0)))) (dB (dOp2 gGe (dVar 4) (dVar 0))))) (dRaise "Malformed") dNext))
  (dHas 2 (dBind (dVar 3) (stApp 2)))))))
  (dBind (dVar 2) fun d ρ => .rt d ρ))))
def F_u_checked_pairs : List D → FR := fnD 5 none B_u_checked_pairs
def B_OrderU_initU : DL.Env → Fl :=
  (dSeq (dIf (dOrT (dNotT (dB (dCall 1 F_is_integer (dACons (dVar 1) dANil)))) (dB (dOp2 gLt (dVar 1) (dC (.int 0))))) (dRaise "Malformed") dNext)
  (dSeq (dIf (dB (dOp2 gGt (dVar 1) (dC (.int 10)))) (dBind (dC (.str "large")) (stRaise "Refused" "reason" DL.okStr)) dNext)
  (dSeq (dBind (dVar 1) (stFld "Order" "n" 0))
  (dBind (dCall 2 F_u_closed (dACons (dVar 1) (dACons (dCall 2 F_u_checked_pairs (dACons (dVar 1) (dACons (dVar 2) dANil))) dANil))) (stFld "Order" "above" 0)))))
def F_OrderU_initU : List D → FR := fnD 3 (some 0) B_OrderU_initU
def B_members : DL.Env → Fl :=
  (dBind (dU gTuple (dLc [1] (dRng1 (dU gBits (dVar 0))) (tg1 1) (dB (dOp2 gEq (dOp2 gAnd (dOp2 gShr (dVar 0) (dVar 1)) (dC (.int 1))) (dC (.int 1)))) (dVar 1))) fun d ρ => .rt d ρ)
def F_members : List D → FR := fnD 2 none B_members
def B_Order_less : DL.Env → Fl :=
  (dBind (dCall 2 F_has (dACons (dOp2 gIx (dU (gFld "above") (dVar 0)) (dVar 1)) (dACons (dVar 2) dANil))) fun d ρ => .rt d ρ)
def F_Order_less : List D → FR := fnD 3 none B_Order_less
def B_Order_pairs : DL.Env → Fl :=
  (dSeq (dBind (dLst dANil) (stSet 1))
  (dSeq (dFrz 1 (dFor (dRng1 (dU (gFld "n") (dVar 0))) (tg1 2) (dFor (dIter (dCall 1 F_members (dACons (dOp2 gIx (dU (gFld "above") (dVar 0)) (dVar 2)) dANil))) (tg1 3) (dHas 1 (dBind (dTup (dACons (dVar 2) (dACons (dVar 3) dANil))) (stApp 1))))))
  (dBind (dU gTuple (dVar 1)) fun d ρ => .rt d ρ)))
def F_Order_pairs : List D → FR := fnD 4 none B_Order_pairs
def B_OrderU_eqU : DL.Env → Fl :=
  (dBind (dAndV (dU (gIsiA "Order") (dVar 1)) (dAndV (dOp2 gEq (dU (gFld "n") (dVar 0)) (dU (gFld "n") (dVar 1))) (dOp2 gEq (dU (gFld "above") (dVar 0)) (dU (gFld "above") (dVar 1))))) fun d ρ => .rt d ρ)
def F_OrderU_eqU : List D → FR := fnD 2 none B_OrderU_eqU
def B_set_of : DL.Env → Fl :=
  (dSeq (dBind (dC (.int 0)) (stSet 1))
  (dSeq (dFor (dIter (dVar 0)) (tg1 2) (dBind (dOp2 gOrB (dVar 1) (dOp2 gShl (dC (.int 1)) (dVar 2))) (stSet 1)))
  (dBind (dVar 1) fun d ρ => .rt d ρ)))
def F_set_of : List D → FR := fnD 3 none B_set_of
def B_Order_below : DL.Env → Fl :=
  (dBind (dU gTuple (dLc [1] (dRng1 (dU (gFld "n") (dVar 0))) (tg1 1) dYes (dCall 1 F_set_of (dACons (dLc [2] (dRng1 (dU (gFld "n") (dVar 0))) (tg1 2) (dB (dCall 2 F_has (dACons (dOp2 gIx (dU (gFld "above") (dVar 0)) (dVar 2)) (dACons (dVar 1) dANil)))) (dVar 2)) dANil)))) fun d ρ => .rt d ρ)
def F_Order_below : List D → FR := fnD 3 none B_Order_below
def B_law_numbers : DL.Env → Fl :=
  (dSeq (dBind (dLst dANil) (stSet 1))
  (dSeq (dFor (dRng1 (dOp2 gMin2 (dU gLen (dVar 0)) (dC (.int 63)))) (tg1 2) (dSeq (dBind (dU gAbs (dOp2 gIx (dVar 0) (dVar 2))) (stSet 3))
  (dIf (dB (dOp2 gGe (dVar 3) (dOp2 gPow (dC (.int 10)) (dC (.int 18))))) (dFor (dRng1 (dC (.int 60))) (tg1 4) (dIf (dB (dOp2 gGt (dVar 3) (dC (.int 0)))) (dSeq (dHas 1 (dBind (dOp2 gMod (dVar 3) (dC (.int 1009))) (stApp 1)))
  (dBind (dOp2 gFdiv (dVar 3) (dC (.int 1009))) (stSet 3))) dNext)) (dFor (dRng1 (dC (.int 5))) (tg1 5) (dSeq (dBind (dOp2 gMod (dOp2 gAdd (dOp2 gAdd (dOp2 gMul (dVar 3) (dC (.int 48271))) (dOp2 gMul (dC (.int 69621)) (dOp2 gAdd (dVar 5) (dVar 2)))) (dC (.int 11))) (dC (.int 2147483647))) (stSet 3))
  (dSeq (dBind (dOp2 gMod (dOp2 gAdd (dOp2 gMul (dVar 3) (dC (.int 16807))) (dOp2 gFdiv (dVar 3) (dC (.int 65536)))) (dC (.int 2147483629))) (stSet 6))
  (dHas 1 (dBind (dOp2 gMod (dVar 6) (dC (.int 1009))) (stApp 1)))))))))
  (dRetMv 1)))
def F_law_numbers : List D → FR := fnD 7 none B_law_numbers
def B_law_next : DL.Env → Fl :=
  (dSeq (dIf (dB (dOp2 gEq (dU gLen (dPeek 0)) (dC (.int 0)))) (dBind (dC (.int 0)) fun d ρ => .rt d ρ) dNext)
  (dBind (dOp2 gMod (dPopAt 0 (dC (.int 0))) (dVar 1)) fun d ρ => .rt d ρ))
def F_law_next : List D → FR := fnD 2 (some 0) B_law_next
def B_law_order : DL.Env → Fl :=
  (dSeq (dBind (dCallL 2 (some 0) F_law_next (dALent 0 (dACons (dOp2 gAdd (dVar 1) (dC (.int 1))) dANil))) (stSet 2))
  (dSeq (dBind (dLst dANil) (stSet 3))
  (dSeq (dBind (dLc [10] (dRng1 (dVar 2)) (tg1 10) dYes (dVar 10)) (stSet 4))
  (dSeq (dFrz 4 (dFrz 3 (dFor (dRng1 (dVar 2)) (tg1 5) (dHas 3 (dBind (dPopAt 4 (dCallL 2 (some 0) F_law_next (dALent 0 (dACons (dU gLen (dPeek 4)) dANil)))) (stApp 3))))))
  (dSeq (dBind (dOp2 gAdd (dC (.int 2)) (dCallL 2 (some 0) F_law_next (dALent 0 (dACons (dC (.int 3)) dANil)))) (stSet 6))
  (dSeq (dBind (dLst dANil) (stSet 7))
  (dSeq (dFrz 7 (dFor (dRng1 (dVar 2)) (tg1 8) (dFor (dRng1 (dVar 8)) (tg1 9) (dIf (dB (dOp2 gEq (dCallL 2 (some 0) F_law_next (dALent 0 (dACons (dVar 6) dANil))) (dC (.int 0)))) (dHas 7 (dBind (dTup (dACons (dOp2 gIx (dVar 3) (dVar 9)) (dACons (dOp2 gIx (dVar 3) (dVar 8)) dANil))) (stApp 7))) dNext))))
  (dBind (dMake "Order" 2 F_OrderU_initU (dACons (dVar 2) (dACons (dVar 7) dANil))) fun d ρ => .rt d ρ))))))))
def F_law_order : List D → FR := fnD 11 (some 0) B_law_order
def B_Order_size : DL.Env → Fl :=
  (dBind (dU (gFld "n") (dVar 0)) fun d ρ => .rt d ρ)
def F_Order_size : List D → FR := fnD 1 none B_Order_size
def B_ranks : DL.Env → Fl :=
  (dSeq (dBind (dMeth "Order" "below" 0 F_Order_below (dVar 0) dANil) (stSet 1))
  (dSeq (dBind (fun ρ => .ok (.n (.dct []) true []) ρ) (stSet 2))
  (dSeq (dFrz 2 (whL (dB (dOp2 gLt (dU gLenD (dPeek 2)) (dMeth "Order" "size" 0 F_Order_size (dVar 0) dANil))) (dFor (dRng1 (dMeth "Order" "size" 0 F_Order_size (dVar 0) dANil)) (tg1 3) (dSeq (dBind (dCall 1 F_members (dACons (dOp2 gIx (dVar 1) (dVar 3)) dANil)) (stSet 4))
  (dIf (dAndT (dB (dDIn true 2 (dVar 3))) (dB (dU gAll (dLc [5] (dIter (dVar 4)) (tg1 5) dYes (dDIn false 2 (dVar 5)))))) (dBind (dOp2 gAdd (dU gMax1 (dOp2 gAdd (dLst (dACons (dU gNeg (dC (.int 1))) dANil)) (dLc [5] (dIter (dVar 4)) (tg1 5) dYes (dDGet 2 (dVar 5))))) (dC (.int 1))) (stDPut 2 (dVar 3))) dNext))) 100000))
  (dBind (dU gTuple (dLc [3] (dRng1 (dMeth "Order" "size" 0 F_Order_size (dVar 0) dANil)) (tg1 3) dYes (dDGet 2 (dVar 3)))) fun d ρ => .rt d ρ))))
def F_ranks : List D → FR := fnD 6 none B_ranks
def B_length : DL.Env → Fl :=
  (dBind (dOp2 gAdd (dU gMax1 (dOp2 gAdd (dLst (dACons (dU gNeg (dC (.int 1))) dANil)) (dU gList (dCall 1 F_ranks (dACons (dVar 0) dANil))))) (dC (.int 1))) fun d ρ => .rt d ρ)
def F_length : List D → FR := fnD 1 none B_length
def B_is_row : DL.Env → Fl :=
  (dSeq (dIf (dOrT (dNotT (dB (dU (gIsi "tuple") (dVar 0)))) (dB (dOp2 gNe (dU gLen (dVar 0)) (dVar 1)))) (dBind (dC (.bl false)) fun d ρ => .rt d ρ) dNext)
  (dBind (dAndV (dU gAll (dLc [2] (dIter (dVar 0)) (tg1 2) dYes (dCall 1 F_is_integer (dACons (dVar 2) dANil)))) (dOp2 gEq (dU gSortIT (dVar 0)) (dU gLRng (dVar 1)))) fun d ρ => .rt d ρ))
def F_is_row : List D → FR := fnD 3 none B_is_row
def B_following_points : DL.Env → Fl :=
  (dBind (dLc [3] (dIter (dCall 1 F_members (dACons (dOp2 gAnd (dVar 1) (dU gInv (dVar 2))) dANil))) (tg1 3) (dB (dOp2 gEq (dOp2 gAnd (dOp2 gIx (dVar 0) (dVar 3)) (dU gInv (dVar 2))) (dC (.int 0)))) (dVar 3)) fun d ρ => .rt d ρ)
def F_following_points : List D → FR := fnD 4 none B_following_points
def B_ways_on : DL.Env → Fl :=
  (dSeq (dBind (dMeth "Order" "below" 0 F_Order_below (dVar 0) dANil) (stSet 1))
  (dSeq (dBind (dCall 1 F_set_of (dACons (dU gLRng (dMeth "Order" "size" 0 F_Order_size (dVar 0) dANil)) dANil)) (stSet 2))
  (dSeq (dBind (dLst (dACons (dFz (dLst (dACons (dC (.int 0)) dANil))) dANil)) (stSet 3))
  (dSeq (dFrz 3 (dFor (dRng1 (dMeth "Order" "size" 0 F_Order_size (dVar 0) dANil)) (tg1 4) (dSeq (dBind (dLst dANil) (stSet 7))
  (dSeq (dFrz 7 (dFor (dIter (dIxV 3 (dU gNeg (dC (.int 1))))) (tg1 8) (dFor (dIter (dFz (dCall 3 F_following_points (dACons (dVar 1) (dACons (dVar 2) (dACons (dVar 8) dANil)))))) (tg1 9) (dIf (dB (dOp2 gNotIn (dOp2 gOrB (dVar 8) (dOp2 gShl (dC (.int 1)) (dVar 9))) (dPeek 7))) (dHas 7 (dBind (dOp2 gOrB (dVar 8) (dOp2 gShl (dC (.int 1)) (dVar 9))) (stApp 7))) dNext))))
  (dHas 3 (dBind (dVar 7) (stApp 3)))))))
  (dSeq (dBind (dDisp1 (dVar 2) (dC (.int 1))) (stSet 5))
  (dSeq (dFrz 5 (dFor (dIter (dFz (dU gRevA (dSl (dVar 3) none (some (dU gNeg (dC (.int 1)))))))) (tg1 6) (dFor (dIter (dVar 6)) (tg1 8) (dBind (dU gSum (dLc [9] (dIter (dFz (dCall 3 F_following_points (dACons (dVar 1) (dACons (dVar 2) (dACons (dVar 8) dANil)))))) (tg1 9) dYes (dDGet 5 (dOp2 gOrB (dVar 8) (dOp2 gShl (dC (.int 1)) (dVar 9)))))) (stDPut 5 (dVar 8))))))
  (dBind (dVar 5) fun d ρ => .rt d ρ)))))))
def F_ways_on : List D → FR := fnD 10 none B_ways_on
def B_count_linear : DL.Env → Fl :=
  (dBind (dDGetE (dCall 1 F_ways_on (dACons (dVar 0) dANil)) (dC (.int 0))) fun d ρ => .rt d ρ)
def F_count_linear : List D → FR := fnD 1 none B_count_linear
def B_all_linear : DL.Env → Fl :=
  (dSeq (dBind (dCall 1 F_count_linear (dACons (dVar 0) dANil)) (stSet 1))
  (dSeq (dIf (dB (dOp2 gGt (dVar 1) (dC (.int 5040)))) (dBind (dC (.str "large")) (stRaise "Refused" "reason" DL.okStr)) dNext)
  (dSeq (dBind (dMeth "Order" "below" 0 F_Order_below (dVar 0) dANil) (stSet 2))
  (dSeq (dBind (dCall 1 F_set_of (dACons (dU gLRng (dMeth "Order" "size" 0 F_Order_size (dVar 0) dANil)) dANil)) (stSet 3))
  (dSeq (dBind (dFz (dLst (dACons (dTup dANil) dANil))) (stSet 4))
  (dSeq (dFor (dRng1 (dMeth "Order" "size" 0 F_Order_size (dVar 0) dANil)) (tg1 5) (dSeq (dBind (dLst dANil) (stSet 6))
  (dSeq (dFrz 6 (dFor (dIter (dFz (dU gList (dVar 4)))) (tg1 7) (dFor (dIter (dFz (dCall 3 F_following_points (dACons (dVar 2) (dACons (dVar 3) (dACons (dCall 1 F_set_of (dACons (dVar 7) dANil)) dANil)))))) (tg1 8) (dHas 6 (dBind (dOp2 gAdd (dVar 7) (dTup (dACons (dVar 8) dANil))) (stApp 6))))))
  (dBind (dVar 6) (stSet 4)))))
  (dBind (dU gTuple (dVar 4)) fun d ρ => .rt d ρ)))))))
def F_all_linear : List D → FR := fnD 9 none B_all_linear
end DC
namespace DL
open PySem PySem.Spec PySem.W PyProof.Rows L2
theorem isFn {k : Kd} {o : Bool} {xs : List D} : isF (.n k o xs) = (!o && isFL xs) := rfl
def bU : Int := 18446744073709551616
section
variable {K : PySem.W.Frag} {cA : Str → Addr}
end
section
variable {X : Cx} {cA : Str → Addr} {W : WX} {fa fb : Env → Out D} {a b : Expr} {p pos : Pos}
end
end DL
namespace DL
open PySem PySem.Spec PySem.W PyProof.Rows L2 NdefX
section
variable {X : Cx} {cA : Str → Addr} {i : Nat} {a : Addr} {cls : Value} {d : Option Addr} {g h : Exn → Option At} {e e2 : Expr} {pos : Pos}
end
end DL
namespace DC
open PySem L2 DL
end DC
namespace DL
open PySem L2
end DL
namespace DL
open PySem L2
end DL
namespace L2
open PySem PySem.Spec PyProof.Rows
end L2
namespace DL
open PySem L2
end DL
namespace DL
open PySem L2
section
variable {prog : Program} {w : World} {κ : Type} [DecidableEq κ] {kd : KeyKind prog w κ} {A : Around} {E : Value → Shared → Prop} {s : Shared}
end
section
variable {X : Cx} {a b c : Expr} {pos : Pos}
end
section
variable {X : Cx} {cA : Str → Addr} {W : WX} {a b c : Expr} {pos : Pos}
end
section
variable {X : Cx} {cA : Str → Addr} {W : WX} {g : Env → Out (List Ag)}
section
variable {k n j : Nat} {kio : Option Nat} {f : Addr} {ps : List Str} {F : List D → FR} {x : Str} {p pos : Pos} {e : Expr} {es : List Expr}
end
end
end DL
namespace DL
open PySem PySem.Spec PySem.W PyProof.Rows L2
section
variable {prog : Program} {w : World} {A : Around} {E : Value → Shared → Prop} {s : Shared} {Q : Bool → Shared → Prop}
end
def OkV (h : Heap) (vs : List Value) : Prop := ∀ v ∈ vs, ∃ ns, TS.TupInts h v ns ∧ 1 ≤ ns.length ∧ ns.length ≤ 60 ∧ TS.Bd bU ns
theorem OkV.keeps {h g : Heap} {vs : List Value} (x : OkV h vs) (k : ∀ b o, h.get? b = some o → o.cls = .type "tuple" → g.get? b = some o) : OkV g vs := fun v m =>
  let ⟨ns, t, r⟩ := x v m
  ⟨ns, t.keeps k, r⟩
section
variable {prog : Program} {w : World} {A : Around} {E : Value → Shared → Prop} {s : Shared}
end
section
variable {X : Cx}
end
section
variable {K : PySem.W.Frag} {cA : Str → Addr}
end
section
variable {X : Cx} {cA : Str → Addr} {W : WX} {fa : Env → Out D} {a : Expr} {p pos : Pos}
end
end DL
namespace DC
open PySem L2 DL
end DC
namespace DL
open PySem L2
section
variable {X : Cx} {cA : Str → Addr} {W : WX} {k : Option Nat} {fb : Env → Out D} {e o ix : Expr} {pos apos cpos spos : Pos}
end
end DL
namespace DC
open PySem L2 DL
end DC
namespace DL
open PySem L2 PyProof.Rows
def gIndexT (l x : D) : Option D := match l with
  | .n .tup _ ys => if pD 60 x = true ∧ pDL 60 ys = true then (firstEq x ys).map fun j => D.int (j : Nat) else none
  | _ => none
section
variable {X : Cx} {cA : Str → Addr} {W : WX} {fa fb : Env → Out D} {a b : Expr} {pos apos : Pos}
def dIndexT (fa fb : Env → Out D) : Env → Out D := fun ρ => match fa ρ with
  | .ok (.n .tup o xs) ρ1 => (match fb ρ1 with
    | .ok d2 ρ2 => (match gIndexT (.n .tup o xs) d2 with
      | some d => .ok d ρ2
      | none => .st)
    | .ex e ρ2 => .ex e ρ2
    | .st => .st)
  | .ok _ _ => .st
  | .ex e ρ1 => .ex e ρ1
  | .st => .st
theorem te_indexT {K : PySem.W.Frag} : ∀ σ H Q, TEof K cA W (dIndexT fa fb) σ H Q → tBMN K (rIndexN K) (TEof K cA W fa) (tCons (TEof K cA W fb) tNil) σ H Q := by
  rintro σ H Q ⟨Z, L, ρ, r, w, p⟩
  refine ⟨Z, L, ρ, r, w, ?_⟩
  unfold dIndexT at p
  cases ha : fa ρ with
  | st => rw [ha] at p; exact p
  | ex e ρ' => rw [ha] at p; exact p
  | ok d1 ρ1 =>
    rw [ha] at p
    by_cases hd1 : ∃ o xs, d1 = .n .tup o xs
    · obtain ⟨o, xs, rfl⟩ := hd1
      dsimp only at p
      intro v1 H1 Z1 L1 f1 r1 w1 h1 F1
      refine ⟨?_, ?_⟩
      · obtain ⟨p0, vs0, rfl, _, _, _, _, c0⟩ := rep_tup h1
        exact tupK_n c0
      · refine ⟨Z1, L1, ρ1, r1, w1.less (List.sublist_append_right _ _), ?_⟩
        cases hb : fb ρ1 with
        | st => rw [hb] at p; exact p
        | ex e ρ' =>
          rw [hb] at p
          exact exw p (F1.less fun x m => by simp [m])
        | ok d2 ρ2 =>
          rw [hb] at p
          intro v2 H2 Z2 L2 f2 r2 w2 h2 F2
          dsimp only at p
          cases hg : gIndexT (.n .tup o xs) d2 with
          | none => rw [hg] at p; exact p.elim
          | some d =>
            rw [hg] at p
            have h1' := repD_wait w1 h1 F2
            unfold gIndexT at hg
            dsimp only at hg
            split at hg
            · rename_i hp
              cases hfe : firstEq d2 xs with
              | none => rw [hfe] at hg; cases hg
              | some j =>
                rw [hfe] at hg
                cases hg
                obtain ⟨⟨y, hy1, hy2⟩, hno⟩ := firstEq_ok hfe
                obtain ⟨p0, vs0, rfl, e0, rr0, _, _, _⟩ := rep_tup h1'
                have hyp := pDL_get hp.2 hy1
                refine ⟨p0, v2, pyD d2, pyL xs, j, pyD y, rfl, rfl, Dp.tup e0 (rep_dpL xs 60 hp.2 rr0), rep_dp d2 60 hp.1 h2, ?_, shaped_pD hp.1 (by decide), by rw [pyL_get, hy1]; rfl, ?_, ?_, ?_⟩
                · exact shaped_pD (d := .n .tup o xs) (n := 61) (by simpa [pD] using hp.2) (by decide)
                · rw [eqv_D y d2 60 60 hyp hp.1]; exact hy2
                · intro m z' hm hz'
                  rw [pyL_get] at hz'
                  cases hq : xs[m]? with
                  | none => rw [hq] at hz'; cases hz'
                  | some y' =>
                    rw [hq] at hz'
                    cases hz'
                    rw [eqv_D y' d2 60 60 (pDL_get hp.2 hq) hp.1]
                    exact hno m y' hm hq
                · exact p _ H2 Z2 L2 [] r2 (w2.less (List.sublist_append_right _ _)) ⟨rfl, rfl⟩ ((F1.less fun x m => by simp [m]).trans (F2.less fun x m => by
                  have m : x ∈ L2 := by simpa using m
                  simp [m]))
            · cases hg
    · exfalso
      cases d1 with
      | a x => exact p
      | n kk o xs => cases kk <;> first | exact p | exact hd1 ⟨_, _, rfl⟩
theorem de_indexT (hu : X.A.units + 65 < cLine) (ha : DE X cA W fa a) (hb : DE X cA W fb b) (hbase : attributeBase a "index" X.env (eval a X.env) = eval a X.env := by kernel_rfl)
    (hfew : ((backTo pos (starEach [b] X.env)).all (fun x => !x.1) && (backToKw pos (keywordEach [] X.env)).all (fun x => x.1.isSome)
      && decide ([b].length + ([] : List Keyword).length + (if ([] : List Keyword).isEmpty then 0 else 1) < 30)) = true := by kernel_rfl)
    (hline : (apos.endLine == pos.line) = true := by kernel_rfl) (hs : starEach [b] X.env = (false, eval b X.env) :: starEach [] X.env := by kernel_rfl) : DE X cA W (dIndexT fa fb) (.Call (.Attribute a "index" apos) [b] [] pos) :=
  PE.imp (pe_bmN PySem.F.plainAttrs_tuple PySem.F.slot_tuple_index PySem.F.type_tuple_index (mt_indexN hu) ha (pa_cons hb pa_nil hs) hbase hfew hline hs rfl) te_indexT
end
end DL
namespace DC
open PySem L2 DL
def B_common_part_v2 : DL.Env → Fl :=
  (dSeq (dIf (dOrT (dNotT (dB (dU (gIsi "tuple") (dVar 0)))) (dOrT (dB (dOp2 gEq (dU gLen (dVar 0)) (dC (.int 0)))) (dNotT (dB (dU (gIsi "tuple") (dOp2 gIx (dVar 0) (dC (.int 0)))))))) (dRaise "Malformed") dNext)
  (dSeq (dBind (dU gLen (dOp2 gIx (dVar 0) (dC (.int 0)))) (stSet 1))
  (dSeq (dFor (dIter (dVar 0)) (tg1 2) (dIf (dNotT (dB (dCall 2 F_is_row (dACons (dVar 2) (dACons (dVar 1) dANil))))) (dRaise "Malformed") dNext))
  (dSeq (dBind (dLst dANil) (stSet 3))
  (dSeq (dFrz 3 (dFor (dRng1 (dVar 1)) (tg1 4) (dFor (dRng1 (dVar 1)) (tg1 5) (dIf (dAndT (dB (dOp2 gNe (dVar 4) (dVar 5))) (dB (dU gAll (dLc [2] (dIter (dVar 0)) (tg1 2) dYes (dOp2 gLt (dIndexT (dVar 2) (dVar 4)) (dIndexT (dVar 2) (dVar 5))))))) (dHas 3 (dBind (dTup (dACons (dVar 4) (dACons (dVar 5) dANil))) (stApp 3))) dNext))))
  (dBind (dMake "Order" 2 F_OrderU_initU (dACons (dVar 1) (dACons (dVar 3) dANil))) fun d ρ => .rt d ρ))))))
def F_common_part_v2 : List D → FR := fnD 6 none B_common_part_v2
def B_law_refuses_v2 : DL.Env → Fl :=
  (dTry (dSeq (dBind (dCall 1 F_common_part_v2 (dACons (dVar 0) dANil)) fun _ ρ => .nx ρ)
  (dBind (dC (.bl false)) fun d ρ => .rt d ρ)) ((("Malformed" : Str), ([("Malformed", true), ("Refused", false)] : List (Str × Bool)), fun _ => (dBind (dC (.bl true)) fun d ρ => .rt d ρ)) :: []))
def F_law_refuses_v2 : List D → FR := fnD 1 none B_law_refuses_v2
def B_count_before : DL.Env → Fl :=
  (dSeq (dIf (dOrT (dB (dOp2 gEq (dVar 1) (dVar 2))) (dB (dMeth "Order" "less" 2 F_Order_less (dVar 0) (dACons (dVar 2) (dACons (dVar 1) dANil))))) (dBind (dC (.int 0)) fun d ρ => .rt d ρ) dNext)
  (dBind (dCall 1 F_count_linear (dACons (dMake "Order" 2 F_OrderU_initU (dACons (dMeth "Order" "size" 0 F_Order_size (dVar 0) dANil) (dACons (dOp2 gAdd (dU gList (dMeth "Order" "pairs" 0 F_Order_pairs (dVar 0) dANil)) (dLst (dACons (dTup (dACons (dVar 1) (dACons (dVar 2) dANil))) dANil))) dANil))) dANil)) fun d ρ => .rt d ρ))
def F_count_before : List D → FR := fnD 3 none B_count_before
end DC
namespace DC
open PySem L2 DL
theorem has_eq (m x : Nat) : F_has [.int m, .int x] = .rt (.bl (m.testBit x)) none := by
  apply wf_eq
  unfold F_has
  rw [wf_fn]
  unfold B_has
  simp [ioOf]
  rw [PyProof.Rows.bitAnd_m1, Nat.testBit_eq_decide_div_mod_eq]
  congr 1
  have : ((m : Int) / 2 ^ x) = ((m / 2 ^ x : Nat) : Int) := by simp
  rw [this]
  simp only [eq_iff_iff]
  omega
theorem mulOk_of {a b : Int} {m n : Nat} (ha : Builtin.Int.intBits a ≤ m) (hb : Builtin.Int.intBits b ≤ n) (h : m + n ≤ 134217728) : mulOk a b = true := by
  unfold mulOk
  rw [decide_eq_true_eq]
  omega
theorem bits31 {t : Int} (h0 : 0 ≤ t) (h : t < 2147483647) : Builtin.Int.intBits t ≤ 31 := PySem.intBits_le_iff.mpr (by omega)
theorem bits_c {t : Int} {n : Nat} (h : t.natAbs < 2 ^ n) : Builtin.Int.intBits t ≤ n := PySem.intBits_le_iff.mpr h
theorem divOk_small {i j : Int} (h : 0 < j) (h2 : j < 1073741824) : divOk i j = true := by
  unfold divOk
  simp [h, h2]
@[irreducible] def bb (i : Nat) : Nat := 1048576 + 22 * i
def natD (n : Nat) : D := .a (.int (n : Int))
@[simp] theorem isF_natD {n : Nat} : isF (natD n) = true := rfl
@[simp] theorem frz_natD {n : Nat} : frz (natD n) = natD n := rfl
theorem intL_nat (n : Nat) : intL 0 n = (List.range n).map natD := by
  unfold intL natD
  apply List.map_congr_left
  intro a _
  simp
theorem seqIx_nat {v : Int} {n : Nat} (h0 : 0 ≤ v) (h : v < n) : seqIndex? v n = some v.toNat := by
  unfold seqIndex?
  have : ¬ v < 0 := by omega
  simp [this, h0, h]
end DC
namespace DC
open PySem L2 DL
@[simp] theorem frzL_nat {l : List Nat} : frzL (l.map natD) = l.map natD := frzL_map fun _ => rfl
@[simp] theorem isFL_nat {l : List Nat} : isFL (l.map natD) = true := isFL_map fun _ => rfl
theorem map_erase {α β : Type} (f : α → β) : ∀ (l : List α) (i : Nat), (l.map f).eraseIdx i = (l.eraseIdx i).map f
  | [], _ => rfl
  | _ :: _, 0 => rfl
  | x :: l, i + 1 => by simp [map_erase f l i]
theorem perm_erase {α : Type} : ∀ (l : List α) (i : Nat) (h : i < l.length), (l[i] :: l.eraseIdx i).Perm l
  | [], _, h => by simp at h
  | x :: l, 0, _ => by simp
  | x :: l, i + 1, h => by
    have h' : i < l.length := by simpa using h
    have := perm_erase l i h'
    simp only [List.getElem_cons_succ, List.eraseIdx_cons_succ]
    exact (List.Perm.swap x _ _).trans (this.cons x)
end DC
namespace DC
open PySem L2 DL
theorem intL_get {lo : Int} {m k : Nat} {d : D} (h : (intL lo m)[k]? = some d) : d = .a (.int (lo + k)) ∧ k < m := by
  unfold intL at h
  rw [List.getElem?_map] at h
  cases e : (List.range m)[k]? with
  | none => rw [e] at h; cases h
  | some x =>
    rw [e] at h
    cases h
    have h2 := List.getElem?_eq_some_iff.mp e
    obtain ⟨h3, h4⟩ := h2
    simp at h3 h4
    subst h4
    exact ⟨rfl, h3⟩
theorem natD_get {l : List Nat} {k : Nat} {d : D} (h : (l.map natD)[k]? = some d) : ∃ x, l[k]? = some x ∧ d = natD x := by
  rw [List.getElem?_map] at h
  cases e : l[k]? with
  | none => rw [e] at h; cases h
  | some x => rw [e] at h; cases h; exact ⟨x, rfl, rfl⟩
def prD (p : Nat × Nat) : D := .n .tup false [natD p.1, natD p.2]
@[simp] theorem isF_prD {p : Nat × Nat} : isF (prD p) = true := rfl
@[simp] theorem frz_prD {p : Nat × Nat} : frz (prD p) = prD p := rfl
@[simp] theorem frzL_pr {l : List (Nat × Nat)} : frzL (l.map prD) = l.map prD := frzL_map fun _ => rfl
@[simp] theorem isFL_pr {l : List (Nat × Nat)} : isFL (l.map prD) = true := isFL_map fun _ => rfl
def PsOk (n : Nat) (r : Nat → Nat) (ps : List (Nat × Nat)) : Prop := ∀ p ∈ ps, p.1 < n ∧ p.2 < n ∧ r p.1 < r p.2
def Acyc (n : Nat) (ps : List (Nat × Nat)) : Prop := ∃ r : Nat → Nat, PsOk n r ps
theorem idxOf_get {l : List Nat} (nd : l.Nodup) (i : Nat) (h : i < l.length) : l.idxOf l[i] = i := by
  induction l generalizing i with
  | nil => simp at h
  | cons x l ih =>
    have n1 := List.nodup_cons.mp nd
    cases i with
    | zero => simp
    | succ i =>
      have h' : i < l.length := by simpa using h
      have hne : l[i] ≠ x := fun e => n1.1 (e ▸ List.getElem_mem h')
      have hb : (x == l[i]) = false := by simpa using fun e => hne e.symm
      rw [List.getElem_cons_succ, List.idxOf_cons, hb]
      show (if false = true then 0 else _) = _
      simp [ih n1.2 i h']
end DC
namespace DC
open PySem L2 DL
def vec (n : Nat) (f : Nat → D) : List D := (List.range n).map f
@[simp] theorem vec_len {n : Nat} {f : Nat → D} : (vec n f).length = n := by simp [vec]
theorem vec_get {n i : Nat} {f : Nat → D} (h : i < n) : (vec n f)[i]? = some (f i) := by simp [vec, h]
theorem vec_get' {n i : Nat} {f : Nat → D} {d : D} (h : (vec n f)[i]? = some d) : i < n ∧ d = f i := by
  have hi := (List.getElem?_eq_some_iff.mp h).1
  rw [vec_len] at hi
  rw [vec_get hi] at h
  cases h
  exact ⟨hi, rfl⟩
theorem vec_ext {n : Nat} {f g : Nat → D} (h : ∀ i, i < n → f i = g i) : vec n f = vec n g := List.map_congr_left fun i hi => h i (by simpa using hi)
theorem vec_set {n i : Nat} {f : Nat → D} {d : D} : (vec n f).set i d = vec n (fun j => if j = i then d else f j) := by
  apply List.ext_getElem?
  intro j
  by_cases hj : j < n
  · rw [vec_get hj]
    by_cases e : i = j
    · subst e
      rw [List.getElem?_set_self (by rw [vec_len]; exact hj), if_pos rfl]
    · rw [List.getElem?_set_ne e, vec_get hj, if_neg fun z => e z.symm]
  · rw [List.getElem?_eq_none (by rw [List.length_set, vec_len]; omega), List.getElem?_eq_none (by rw [vec_len]; omega)]
theorem isFL_vec {n : Nat} {f : Nat → D} (h : ∀ i, i < n → isF (f i) = true) : isFL (vec n f) = true := isFL_all.mpr fun x hx => by
  obtain ⟨i, hi, e⟩ := List.mem_map.mp hx
  rw [← e]
  exact h i (by simpa using hi)
theorem frzL_eq : ∀ xs : List D, frzL xs = xs.map frz
  | [] => rfl
  | x :: xs => by rw [frzL_cons, frzL_eq xs]; rfl
theorem frzL_vec {n : Nat} {f : Nat → D} : frzL (vec n f) = vec n (fun i => frz (f i)) := by
  rw [frzL_eq]; unfold vec; rw [List.map_map]; rfl
theorem ixN_nat {n i : Nat} (h : i < n) : ixN n (i : Int) = some i := by
  unfold ixN
  have : ((i : Int) < (n : Int)) := by omega
  simp [this]
theorem atI_nat {α : Type} {xs : List α} {i : Nat} {x : α} (h : xs[i]? = some x) : atI xs (i : Int) = some x := by
  unfold atI
  rw [ixN_nat (List.getElem?_eq_some_iff.mp h).1]
  exact h
theorem ixL {xs : List D} {i : Nat} {d : D} {o : Bool} (h : xs[i]? = some d) : gIxO (.n .lst o xs) (.a (.int (i : Int))) = some d := atI_nat h
theorem ixT {xs : List D} {i : Nat} {d : D} {o : Bool} (h : xs[i]? = some d) : gIxO (.n .tup o xs) (.a (.int (i : Int))) = some d := atI_nat h
abbrev Tb : Type := Nat → Nat → Bool
def stepT (T : Tb) (y x : Nat) : Tb := fun a b => if a = x then T a b || (T x y && T y b) else T a b
def warX (T : Tb) (y : Nat) : Nat → Tb
  | 0 => T
  | k + 1 => stepT (warX T y k) y k
def war (T : Tb) (n : Nat) : Nat → Tb
  | 0 => T
  | k + 1 => warX (war T n k) k n
def base (ps : List (Nat × Nat)) : Tb := fun x y => decide ((x, y) ∈ ps)
def clo (n : Nat) (ps : List (Nat × Nat)) : Tb := war (base ps) n n
def Up (n : Nat) (r : Nat → Nat) (T : Tb) : Prop := ∀ a b, T a b = true → a < n ∧ b < n ∧ r a < r b
theorem up_step {n : Nat} {r : Nat → Nat} {T : Tb} (h : Up n r T) (y x : Nat) : Up n r (stepT T y x) := by
  intro a b hab
  unfold stepT at hab
  split at hab
  · rename_i e
    subst e
    rw [Bool.or_eq_true, Bool.and_eq_true] at hab
    rcases hab with hab | ⟨h1, h2⟩
    · exact h a b hab
    · exact ⟨(h _ _ h1).1, (h _ _ h2).2.1, Nat.lt_trans (h _ _ h1).2.2 (h _ _ h2).2.2⟩
  · exact h a b hab
theorem up_warX {n : Nat} {r : Nat → Nat} {T : Tb} (h : Up n r T) (y : Nat) : ∀ k, Up n r (warX T y k)
  | 0 => h
  | k + 1 => up_step (up_warX h y k) y k
theorem up_war {n : Nat} {r : Nat → Nat} {T : Tb} (h : Up n r T) : ∀ k, Up n r (war T n k)
  | 0 => h
  | k + 1 => up_warX (up_war h k) k n
theorem up_base {n : Nat} {r : Nat → Nat} {ps : List (Nat × Nat)} (h : PsOk n r ps) : Up n r (base ps) := fun a b hab => h (a, b) (by simpa [base] using hab)
theorem up_clo {n : Nat} {r : Nat → Nat} {ps : List (Nat × Nat)} (h : PsOk n r ps) : Up n r (clo n ps) := up_war (up_base h) n
theorem clo_irr {n : Nat} {ps : List (Nat × Nat)} (h : Acyc n ps) (x : Nat) : clo n ps x x = false := by
  obtain ⟨r, h⟩ := h
  cases e : clo n ps x x with
  | false => rfl
  | true => exact absurd (up_clo h x x e).2.2 (Nat.lt_irrefl _)
def mask (n : Nat) (f : Nat → Bool) : Nat := (List.range n).foldl (fun m z => if f z = true then m ||| 2 ^ z else m) 0
theorem mask_succ {n : Nat} {f : Nat → Bool} : mask (n + 1) f = if f n = true then mask n f ||| 2 ^ n else mask n f := by
  unfold mask
  rw [List.range_succ, List.foldl_append]
  rfl
theorem mask_bit {f : Nat → Bool} {z : Nat} : ∀ {n : Nat}, (mask n f).testBit z = (decide (z < n) && f z)
  | 0 => by simp [mask]
  | n + 1 => by
    rw [mask_succ]
    have ih := mask_bit (f := f) (z := z) (n := n)
    by_cases hz : z = n
    · subst hz
      cases hf : f z with
      | true => simp [hf, Nat.testBit_or, Nat.testBit_two_pow]
      | false => simp [hf, ih]
    · have h1 : decide (z < n + 1) = decide (z < n) := by
        apply decide_eq_decide.mpr
        omega
      rw [h1]
      split
      · rw [Nat.testBit_or, ih, Nat.testBit_two_pow]
        have : ¬ n = z := fun e => hz e.symm
        simp [this]
      · exact ih
theorem mask_of {n m : Nat} {f : Nat → Bool} (h : ∀ z, m.testBit z = (decide (z < n) && f z)) : m = mask n f := by
  apply Nat.eq_of_testBit_eq
  intro z
  rw [h, mask_bit]
theorem bor_nat (a b : Nat) : Builtin.bitOr (a : Int) (b : Int) = ((a ||| b : Nat) : Int) := by
  unfold Builtin.bitOr Builtin.bitAnd Builtin.bitNot
  have h1 : ¬ (0 : Int) ≤ -(a : Int) - 1 := by omega
  have h2 : ¬ (0 : Int) ≤ -(b : Int) - 1 := by omega
  simp only [decide_eq_false h1, decide_eq_false h2]
  have e1 : (-(-(a : Int) - 1) - 1).toNat = a := by omega
  have e2 : (-(-(b : Int) - 1) - 1).toNat = b := by omega
  rw [e1, e2]
  omega
end DC
namespace DC
open PySem L2 DL
theorem rep1 {n : Nat} {d : D} {P : D → Prop} (hf : isF d = true) (hn : n ≤ 1000000) : SO (gMul (.n .lst true [d]) (.a (.int (n : Int)))) P = P (.lst true (vec n fun _ => d)) := by
  unfold gMul gOr gMulI gII gRep
  have h1 : isFL [d] = true := by simp [hf]
  have e : (List.replicate n [d]).flatten = vec n fun _ => d := by
    have : ∀ m, (List.replicate m [d]).flatten = List.replicate m d := by
      intro m
      induction m with
      | zero => rfl
      | succ m ih => rw [List.replicate_succ, List.flatten_cons, ih]; rfl
    rw [this]
    apply List.ext_getElem?
    intro i
    by_cases hi : i < n
    · rw [vec_get hi, List.getElem?_replicate, if_pos hi]
    · rw [List.getElem?_eq_none (by simp; omega), List.getElem?_eq_none (by rw [vec_len]; omega)]
  have h2 : (-1000000 : Int) ≤ n := by omega
  have h3 : (n : Int) ≤ 1000000 := by omega
  simp [h1, h2, h3, hn, e]
theorem so_ixL {n x : Nat} {f : Nat → D} {o : Bool} {P : D → Prop} (h : x < n) : SO (gIxO (.n .lst o (vec n f)) (.a (.int (x : Int)))) P = P (f x) := by rw [ixL (vec_get h)]; rfl
theorem so_ixLF {n x : Nat} {f : Nat → D} {o : Bool} {P : D → Prop} (h : x < n) (hf : isF (f x) = true) : SO (gIx (.n .lst o (vec n f)) (.a (.int (x : Int)))) P = P (f x) := by
  unfold gIx
  rw [ixL (vec_get h)]
  simp [hf]
theorem so_ixTF {n x : Nat} {f : Nat → D} {o : Bool} {P : D → Prop} (h : x < n) (hf : isF (f x) = true) : SO (gIx (.n .tup o (vec n f)) (.a (.int (x : Int)))) P = P (f x) := by
  unfold gIx
  rw [ixT (vec_get h)]
  simp [hf]
theorem so_ixN {n x : Nat} {P : Nat → Prop} (h : x < n) : SO (ixN n (x : Int)) P = P x := by rw [ixN_nat h]; rfl
theorem o_shl1 {y : Nat} {P : D → Prop} (h : y ≤ 1000000) : SO (gShl (.a (.int 1)) (.a (.int (y : Int)))) P = P (.a (.int ((2 ^ y : Nat) : Int))) := by
  rw [o_shl]
  have : powOk 1 (y : Int) = true := by
    unfold powOk
    have h2 : (y : Int) ≤ 1000000 := by omega
    simp [h2]
  simp [this]
theorem base_take {ps : List (Nat × Nat)} {i : Nat} {p : Nat × Nat} (h : ps[i]? = some p) (a b : Nat) : base (ps.take (i + 1)) a b = (base (ps.take i) a b || decide ((a, b) = p)) := by
  unfold base
  rw [List.take_succ, h]
  simp
theorem mask_or {n m : Nat} {f g : Nat → Bool} (h : ∀ z, z < n → g z = (f z || m.testBit z)) (hm : ∀ z, m.testBit z = true → z < n) : mask n f ||| m = mask n g := by
  apply mask_of
  intro z
  rw [Nat.testBit_or, mask_bit]
  by_cases hz : z < n
  · simp [hz, h z hz]
  · have : m.testBit z = false := by
      cases e : m.testBit z with
      | false => rfl
      | true => exact absurd (hm z e) hz
    simp [hz, this]
theorem mask_congr {n : Nat} {f g : Nat → Bool} (h : ∀ z, z < n → f z = g z) : mask n f = mask n g := mask_of fun z => by
  rw [mask_bit]
  by_cases hz : z < n
  · simp [hz, h z hz]
  · simp [hz]
def mrow (n : Nat) (T : Tb) (x : Nat) : D := .a (.int ((mask n (T x) : Nat) : Int))
@[simp] theorem isF_mrow {n : Nat} {T : Tb} {x : Nat} : isF (mrow n T x) = true := rfl
@[simp] theorem frzL_mrow {n m : Nat} {T : Tb} : frzL (vec m (mrow n T)) = vec m (mrow n T) := by rw [frzL_vec]; rfl
@[simp] theorem isFL_mrow {n m : Nat} {T : Tb} : isFL (vec m (mrow n T)) = true := isFL_vec fun _ _ => rfl
end DC
namespace DC
open PySem L2 DL
theorem isint_eq (i : Int) : F_is_integer [.a (.int i)] = .rt (.a (.bl true)) none := by
  apply wf_eq
  unfold F_is_integer
  rw [wf_fn]
  unfold B_is_integer
  simp [ioOf, o_isi (t := "int") (d := .a (.int i)) rfl, isiT]
def ordD (n : Nat) (ms : List D) : D := .n (.ins "Order" ["n", "above"]) false [.a (.int (n : Int)), .n .tup false ms]
end DC
namespace DL
open PySem L2
def asA (d : D) (P : At → Prop) : Prop := match d with
  | .a x => P x
  | _ => False
@[simp] theorem asA_a {x : At} {P : At → Prop} : asA (.a x) P = P x := rfl
def asIA (a : At) (P : Int → Prop) : Prop := match a with
  | .int i => P i
  | _ => False
@[simp] theorem asIA_int {i : Int} {P : Int → Prop} : asIA (.int i) P = P i := rfl
section
variable {ρ : DL.Env} {i : Nat} {Q : Ps} {d : D}
@[simp] theorem q_Var {P : At → Prop} : SO (qVar i ρ) P = SO (ρ[i]?) fun o => SO o fun d => asA d P := by
  unfold qVar
  split
  · rename_i x h; rw [h]; rfl
  · rename_i h
    cases e : ρ[i]? with
    | none => rfl
    | some o =>
      cases o with
      | none => rfl
      | some d =>
        cases d with
        | a x => exact absurd e (h x)
        | n _ _ _ => rfl
@[simp] theorem q_Op {f : Int → Int → Int} {g h : DL.Env → Option At} {P : At → Prop} : SO (qOp f g h ρ) P = SO (g ρ) fun a => SO (h ρ) fun b => asIA a fun i => asIA b fun j => P (.int (f i j)) := by
  unfold qOp
  cases e1 : g ρ with
  | none => rfl
  | some a =>
    cases e2 : h ρ with
    | none => cases a <;> rfl
    | some b => cases a <;> cases b <;> rfl
@[simp] theorem p_Sub2 {qa qb : DL.Env → Option At} : WP Q (stSub2 i qa qb d ρ) = SO (ρ[i]?) fun o => SO o fun x => asL x fun xs => SO (qa ρ) fun a => SO (qb ρ) fun b => asIA a fun a => asIA b fun b => SO (ixN xs.length a) fun j => SO (xs[j]?) fun row => asL row fun ys => SO (ixN ys.length b) fun l => isF d = true ∧ Q.nx (ρ.set i (some (.lst true (xs.set j (.lst true (ys.set l d)))))) := by
  unfold stSub2
  split
  · rename_i xs h
    rw [h]
    dsimp only [so_some, asL_lst]
    cases e1 : qa ρ with
    | none => rfl
    | some a =>
      cases e2 : qb ρ with
      | none => cases a <;> rfl
      | some b =>
        cases a with
        | int a =>
          cases b with
          | int b =>
            dsimp only [so_some, asIA_int]
            cases ixN xs.length a with
            | none => rfl
            | some j =>
              dsimp only [so_some]
              split
              · rename_i ys h2
                rw [h2]
                dsimp only [so_some, asL_lst]
                cases ixN ys.length b with
                | none => rfl
                | some l =>
                  dsimp only [so_some]
                  split
                  · rename_i h3; simp [h3]
                  · rename_i h3; simp [h3, WP]
              · rename_i h2
                cases e : xs[j]? with
                | none => rfl
                | some x =>
                  dsimp only [so_some]
                  rw [asL_cases fun ys z => h2 ys (by rw [e, z])]
                  rfl
          | _ => rfl
        | _ => rfl
  · rename_i h
    cases e : ρ[i]? with
    | none => rfl
    | some o =>
      cases o with
      | none => rfl
      | some d =>
        dsimp only [so_some]
        rw [asL_cases fun xs z => h xs (by rw [e, z])]
        rfl
@[simp] theorem w_Yes {E : Exn → DL.Env → Prop} {P : Bool → DL.Env → Prop} : WO E P (dYes ρ) = P true ρ := rfl
@[simp] theorem wipeE_nil : wipeE ρ [] = ρ := rfl
@[simp] theorem wipeE_cons {v : Nat} {vs : List Nat} : wipeE ρ (v :: vs) = (wipeE ρ vs).set v none := rfl
variable {ρ1 : DL.Env} {v : Nat} {vs : List Nat}
@[simp] theorem backE_nil : backE ρ1 [] ρ = ρ := rfl
@[simp] theorem backE_none (h : ρ1[v]? = some none) : backE ρ1 (v :: vs) ρ = backE ρ1 vs ρ := by
  conv => lhs; unfold backE
  rw [h]
@[simp] theorem backE_some (h : ρ1[v]? = some (some d)) (hf : isF d = true) (hl : v < (backE ρ1 vs ρ).length) : backE ρ1 (v :: vs) ρ = (backE ρ1 vs ρ).set v (some d) := by
  conv => lhs; unfold backE
  rw [h]
  simp [hf, hl]
end
end DL
namespace DC
open PySem L2 DL
theorem intL_vec (n : Nat) : intL 0 n = vec n fun i => .a (.int (i : Int)) := by
  unfold intL vec
  apply List.map_congr_left
  intro a _
  simp
theorem vec_filter {n : Nat} {f : Nat → D} {tb : D → Bool} : (vec n f).filter tb = ((List.range n).filter fun i => tb (f i)).map f := by
  unfold vec
  rw [List.filter_map]
  rfl
theorem vec_all {n : Nat} {f fv : Nat → D} {g : D → D} (h : ∀ i, i < n → g (f i) = fv i) : ((vec n f).filter fun _ => true).map g = vec n fv := by
  rw [List.filter_eq_self.mpr (fun _ _ => rfl)]
  unfold vec
  rw [List.map_map]
  apply List.map_congr_left
  intro i hi
  exact h i (by simpa using hi)
theorem mem_vec {n : Nat} {f : Nat → D} {d : D} (h : d ∈ vec n f) : ∃ i, i < n ∧ d = f i := by
  obtain ⟨i, hi, e⟩ := List.mem_map.mp h
  exact ⟨i, by simpa using hi, e.symm⟩
@[simp] theorem o_itL {o : Bool} {xs : List D} {P : List D → Prop} : SO (itemsOf (.n .lst o xs)) P = (xs.length ≤ 1000000 ∧ P xs) := by
  unfold itemsOf
  by_cases h : xs.length ≤ 1000000 <;> simp [h]
@[simp] theorem o_itT {o : Bool} {xs : List D} {P : List D → Prop} : SO (itemsOf (.n .tup o xs)) P = (xs.length ≤ 1000000 ∧ P xs) := by
  unfold itemsOf
  by_cases h : xs.length ≤ 1000000 <;> simp [h]
def brow (o : Bool) (n : Nat) (T : Tb) (x : Nat) : D := .n .lst o (vec n fun y => .a (.bl (T x y)))
theorem isFL_brow {n : Nat} {T : Tb} : isFL (vec n (brow false n T)) = true := isFL_vec fun i _ => by
  unfold brow
  rw [isF_n, isFL_vec fun _ _ => rfl]
  rfl
end DC
namespace DC
open PySem L2 DL
def tbI (f : Nat → Bool) : D → Bool
  | .a (.int i) => f i.toNat
  | _ => false
theorem filter_vecI {n : Nat} {f : Nat → Bool} : ((vec n fun i => .a (.int (i : Int))).filter (tbI f)).map (fun d => d) = ((List.range n).filter f).map natD := by
  rw [vec_filter, List.map_map]
  unfold natD
  congr 1
theorem filter_range {f : Nat → Bool} {a : Nat} (h : ∀ z, a ≤ z → f z = false) : ∀ c, a ≤ c → (List.range c).filter f = (List.range a).filter f
  | 0, hc => by
    have : a = 0 := by omega
    rw [this]
  | c + 1, hc => by
    by_cases e : a = c + 1
    · rw [e]
    · rw [List.range_succ, List.filter_append, filter_range h c (by omega)]
      simp [h c (by omega)]
theorem bits_nat_lt (m : Nat) : m < 2 ^ Builtin.Int.intBits (m : Int) := by
  have := PySem.intBits_le_iff.mp (Nat.le_refl (Builtin.Int.intBits (m : Int)))
  simpa using this
theorem shr_bit (m x : Nat) : decide (Builtin.bitAnd ((m : Int) / 2 ^ x) 1 = 1) = m.testBit x := by
  rw [PyProof.Rows.bitAnd_m1, Nat.testBit_eq_decide_div_mod_eq]
  congr 1
  have : ((m : Int) / 2 ^ x) = ((m / 2 ^ x : Nat) : Int) := by simp
  rw [this]
  simp only [eq_iff_iff]
  omega
theorem members_eq {m n : Nat} (hm : m < 2 ^ n) (hn : n ≤ 100) : F_members [.a (.int (m : Int))] = .rt (.n .tup false (((List.range n).filter m.testBit).map natD)) none := by
  have hb : Builtin.Int.intBits (m : Int) ≤ n := PySem.intBits_le_iff.mpr (by simpa using hm)
  have hf : ∀ c, Builtin.Int.intBits (m : Int) ≤ c → (List.range c).filter m.testBit = (List.range (Builtin.Int.intBits (m : Int))).filter m.testBit := fun c hc => filter_range (fun z hz => Nat.testBit_lt_two_pow (Nat.lt_of_lt_of_le (bits_nat_lt m) (Nat.pow_le_pow_right (by decide) hz))) c hc
  apply wf_eq
  unfold F_members
  rw [wf_fn]
  unfold B_members
  simp [ioOf, intL_vec]
  refine ⟨by omega, ?_⟩
  rw [lcL_run (tbI m.testBit) (fun d => d)]
  · rw [wo_ok, filter_vecI, hf n hb]
    simp
  · intro d hd
    obtain ⟨i, hi, rfl⟩ := mem_vec hd
    simp [shr_bit, tbI]
theorem str_na : ¬ ("above" : Str) = "n" := by decide +kernel
theorem fld_above {n : Nat} {ms : List D} {P : D → Prop} (h : isFL ms = true) : SO (gFld "above" (ordD n ms)) P = P (.n .tup false ms) := by
  have hb : (("above" : Str) == ("n" : Str)) = false := by simpa using str_na
  unfold gFld ordD
  simp [List.lookup_cons, hb, h]
theorem fld_n {n : Nat} {ms : List D} {P : D → Prop} : SO (gFld "n" (ordD n ms)) P = P (.a (.int (n : Int))) := by
  unfold gFld ordD
  simp [List.lookup_cons]
theorem isF_ord {n : Nat} {ms : List D} (h : isFL ms = true) : isF (ordD n ms) = true := by
  unfold ordD
  simp [h]
abbrev ordT (n : Nat) (T : Tb) : D := ordD n (vec n (mrow n T))
theorem isF_ordT {n : Nat} {T : Tb} : isF (ordT n T) = true := isF_ord isFL_mrow
theorem less_eq {n x y : Nat} {T : Tb} (hx : x < n) (hy : y < n) : F_Order_less [ordT n T, .a (.int (x : Int)), .a (.int (y : Int))] = .rt (.a (.bl (T x y))) none := by
  apply wf_eq
  unfold F_Order_less
  rw [wf_fn]
  unfold B_Order_less
  simp [ioOf, isF_ordT, fld_above, so_ixTF (f := mrow n T) (o := false) hx rfl]
  simp [mrow, has_eq, mask_bit, hy]
theorem asIns_ord {n : Nat} {ms : List D} {P : Str → List Str → List D → Prop} : asIns (ordD n ms) P = P "Order" ["n", "above"] [.a (.int (n : Int)), .n .tup false ms] := rfl
theorem ordD_eq {n : Nat} {ms : List D} : (.n (.ins "Order" ["n", "above"]) false [.a (.int (n : Int)), .n .tup false ms]) = ordD n ms := rfl
end DC
namespace DC
open PySem L2 DL
theorem warX_eq (T : Tb) (y : Nat) : ∀ k a b, warX T y k a b = if a < k then T a b || (T a y && T y b) else T a b
  | 0, a, b => by simp [warX]
  | k + 1, a, b => by
    have ih := warX_eq T y k
    show stepT (warX T y k) y k a b = _
    unfold stepT
    by_cases e : a = k
    · subst e
      rw [if_pos rfl, ih a b, ih a y, ih y b]
      simp only [Nat.lt_irrefl, if_false, if_pos (Nat.lt_succ_self a)]
      by_cases h : y < a
      · rw [if_pos h]
        cases T a b <;> cases T a y <;> cases T y b <;> cases T y y <;> rfl
      · rw [if_neg h]
    · rw [if_neg e, ih a b]
      by_cases h : a < k
      · rw [if_pos h, if_pos (by omega)]
      · rw [if_neg h, if_neg (by omega)]
theorem war_bd {n : Nat} {T : Tb} (h : ∀ a b, T a b = true → a < n ∧ b < n) : ∀ k a b, war T n k a b = true → a < n ∧ b < n
  | 0, a, b, e => h a b e
  | k + 1, a, b, e => by
    have ih := war_bd h k
    have e : warX (war T n k) k n a b = true := e
    rw [warX_eq] at e
    split at e
    · rename_i ha
      rw [Bool.or_eq_true, Bool.and_eq_true] at e
      rcases e with e | ⟨e1, e2⟩
      · exact ih a b e
      · exact ⟨ha, (ih _ _ e2).2⟩
    · exact ih a b e
theorem war_step {n : Nat} {T : Tb} (h : ∀ a b, T a b = true → a < n ∧ b < n) (k a b : Nat) : war T n (k + 1) a b = true ↔ war T n k a b = true ∨ (war T n k a k = true ∧ war T n k k b = true) := by
  show warX (war T n k) k n a b = true ↔ _
  rw [warX_eq]
  split
  · rw [Bool.or_eq_true, Bool.and_eq_true]
  · rename_i ha
    constructor
    · exact fun e => .inl e
    · rintro (e | ⟨e, _⟩)
      · exact e
      · exact absurd (war_bd h k _ _ e).1 ha
theorem war_thru {n : Nat} {T : Tb} (h : ∀ a b, T a b = true → a < n ∧ b < n) : ∀ k a m b, m < k → war T n k a m = true → war T n k m b = true → war T n k a b = true
  | 0, _, _, _, hm, _, _ => absurd hm (by omega)
  | k + 1, a, m, b, hm, e1, e2 => by
    have ih := war_thru h k
    rw [war_step h] at e1 e2 ⊢
    by_cases e : m = k
    · subst e
      have f1 : war T n m a m = true := by
        rcases e1 with e1 | e1
        · exact e1
        · exact e1.1
      have f2 : war T n m m b = true := by
        rcases e2 with e2 | e2
        · exact e2
        · exact e2.2
      exact .inr ⟨f1, f2⟩
    · have hm : m < k := by omega
      rcases e1 with e1 | ⟨e1, e1'⟩
      · rcases e2 with e2 | ⟨e2, e2'⟩
        · exact .inl (ih a m b hm e1 e2)
        · exact .inr ⟨ih a m k hm e1 e2, e2'⟩
      · rcases e2 with e2 | ⟨e2, e2'⟩
        · exact .inr ⟨e1, ih k m b hm e1' e2⟩
        · exact .inr ⟨e1, e2'⟩
def Bd (n : Nat) (ps : List (Nat × Nat)) : Prop := ∀ p ∈ ps, p.1 < n ∧ p.2 < n
theorem Acyc.bd {n : Nat} {ps : List (Nat × Nat)} (h : Acyc n ps) : Bd n ps := by
  obtain ⟨r, hr⟩ := h
  exact fun p hp => ⟨(hr p hp).1, (hr p hp).2.1⟩
theorem base_bd {n : Nat} {ps : List (Nat × Nat)} (h : Bd n ps) (a b : Nat) (e : base ps a b = true) : a < n ∧ b < n := h (a, b) (by simpa [base] using e)
theorem clo_bd {n : Nat} {ps : List (Nat × Nat)} (h : Bd n ps) {a b : Nat} (e : clo n ps a b = true) : a < n ∧ b < n := war_bd (base_bd h) n a b e
theorem clo_trans {n : Nat} {ps : List (Nat × Nat)} (h : Bd n ps) {a m b : Nat} (e1 : clo n ps a m = true) (e2 : clo n ps m b = true) : clo n ps a b = true :=
  war_thru (base_bd h) n a m b (clo_bd h e2).1 e1 e2
theorem war_base {n : Nat} {T : Tb} (h : ∀ a b, T a b = true → a < n ∧ b < n) {a b : Nat} (e : T a b = true) : ∀ k, war T n k a b = true
  | 0 => e
  | k + 1 => (war_step h k a b).mpr (.inl (war_base h e k))
theorem clo_base {n : Nat} {ps : List (Nat × Nat)} (h : Bd n ps) {p : Nat × Nat} (hp : p ∈ ps) : clo n ps p.1 p.2 = true := war_base (base_bd h) (by simpa [base] using hp) n
theorem war_least {n : Nat} {T : Tb} (h : ∀ a b, T a b = true → a < n ∧ b < n) {R : Nat → Nat → Prop} (h0 : ∀ a b, T a b = true → R a b) (ht : ∀ a m b, R a m → R m b → R a b) : ∀ k a b, war T n k a b = true → R a b
  | 0, a, b, e => h0 a b e
  | k + 1, a, b, e => by
    have ih := war_least h h0 ht k
    rcases (war_step h k a b).mp e with e | ⟨e1, e2⟩
    · exact ih a b e
    · exact ht a k b (ih _ _ e1) (ih _ _ e2)
theorem clo_least {n : Nat} {ps : List (Nat × Nat)} (h : Bd n ps) {R : Nat → Nat → Prop} (h0 : ∀ p ∈ ps, R p.1 p.2) (ht : ∀ a m b, R a m → R m b → R a b) {a b : Nat} (e : clo n ps a b = true) : R a b :=
  war_least (base_bd h) (fun a b e => h0 (a, b) (by simpa [base] using e)) ht n a b e
theorem Acyc.up {n : Nat} {ps : List (Nat × Nat)} (h : Acyc n ps) : ∃ r : Nat → Nat, Up n r (clo n ps) := by
  obtain ⟨r, hr⟩ := h
  exact ⟨r, up_clo hr⟩
end DC
namespace DC
open PySem L2 DL
def setm (l : List Nat) : Nat := l.foldl (fun m z => m ||| 2 ^ z) 0
theorem mask_setm (n : Nat) (f : Nat → Bool) : mask n f = setm ((List.range n).filter f) := by
  unfold mask setm
  rw [List.foldl_filter]
theorem foldl_take {α β : Type} {g : β → α → β} {b : β} {l : List α} {i : Nat} {x : α} (h : l[i]? = some x) : (l.take (i + 1)).foldl g b = g ((l.take i).foldl g b) x := by
  rw [List.take_succ, h, List.foldl_append]
  rfl
theorem set_of_eq {k : Kd} (hk : k = .lst ∨ k = .tup) {l : List Nat} (hl : l.length ≤ 1000000) (hb : ∀ x ∈ l, x ≤ 1000000) : F_set_of [.n k false (l.map natD)] = .rt (.a (.int ((setm l : Nat) : Int))) none := by
  apply wf_eq
  unfold F_set_of
  rw [wf_fn]
  unfold B_set_of
  have hi : ∀ P : List D → Prop, SO (itemsOf (.n k false (l.map natD))) P = P (l.map natD) := by
    intro P
    rcases hk with e | e <;> subst e <;> simp [hl]
  simp [ioOf, hi]
  refine wp_for (fun i ρ => ∃ v : Option D, ρ = [some (.n k false (l.map natD)), some (.a (.int (((l.take i).foldl (fun m z => m ||| 2 ^ z) 0 : Nat) : Int))), v]) ?_ ?_ ?_
  · exact ⟨none, by simp⟩
  · intro i d ρ hd h
    obtain ⟨v, hρ⟩ := h
    subst hρ
    obtain ⟨x, hx, e⟩ := natD_get hd
    subst e
    have hx2 := hb x (List.mem_of_getElem? hx)
    rw [foldl_take hx]
    simp [natD, o_shl1 hx2]
    rw [show (2 : Int) ^ x = ((2 ^ x : Nat) : Int) by simp, bor_nat]
  · intro ρ h
    obtain ⟨v, hρ⟩ := h
    subst hρ
    simp [setm]
theorem mask_lt (n : Nat) (f : Nat → Bool) : mask n f < 2 ^ n := by
  apply Nat.lt_pow_two_of_testBit
  intro i hi
  rw [mask_bit]
  simp [show ¬ i < n by omega]
end DC
namespace DC
open PySem L2 DL
theorem mask_members {n : Nat} {f : Nat → Bool} (hn : n ≤ 100) : F_members [.a (.int ((mask n f : Nat) : Int))] = .rt (.n .tup false (((List.range n).filter f).map natD)) none := by
  rw [members_eq (mask_lt n f) hn]
  have : (List.range n).filter (mask n f).testBit = (List.range n).filter f := List.filter_congr fun x hx => by
    rw [mask_bit]
    simp [List.mem_range.mp hx]
  rw [this]
def rowp (n : Nat) (T : Tb) (x : Nat) : List (Nat × Nat) := ((List.range n).filter (T x)).map fun y => (x, y)
def prs (n : Nat) (T : Tb) : List (Nat × Nat) := (List.range n).flatMap (rowp n T)
theorem rowp_len {n : Nat} {T : Tb} {x : Nat} : (rowp n T x).length ≤ n := by
  unfold rowp
  rw [List.length_map]
  exact Nat.le_trans (List.length_filter_le _ _) (by simp)
theorem prs_take {n : Nat} {T : Tb} {x : Nat} : (List.range (x + 1)).flatMap (rowp n T) = (List.range x).flatMap (rowp n T) ++ rowp n T x := by
  rw [List.range_succ, List.flatMap_append]
  simp
theorem prs_len {n : Nat} {T : Tb} : ∀ x, ((List.range x).flatMap (rowp n T)).length ≤ x * n
  | 0 => by simp
  | x + 1 => by
    rw [prs_take, List.length_append, Nat.succ_mul]
    exact Nat.add_le_add (prs_len x) rowp_len
theorem pairs_eq {n : Nat} {T : Tb} (hn : n ≤ 60) : F_Order_pairs [ordT n T] = .rt (.n .tup false ((prs n T).map prD)) none := by
  apply wf_eq
  unfold F_Order_pairs
  rw [wf_fn]
  unfold B_Order_pairs
  simp [ioOf, isF_ordT, fld_n, intL_vec]
  refine ⟨by omega, ?_⟩
  refine wp_for (fun i ρ => ∃ v2 v3 : Option D, ρ = [some (ordT n T), some (.n .lst true (((List.range i).flatMap (rowp n T)).map prD)), v2, v3]) ?_ ?_ ?_
  · exact ⟨none, none, rfl⟩
  · intro x d ρ hd h
    obtain ⟨v2, v3, hρ⟩ := h
    subst hρ
    have hq := vec_get' hd
    have hx := hq.1
    have he := hq.2
    subst he
    have hlen : ((List.range n).filter (T x)).length ≤ n := Nat.le_trans (List.length_filter_le _ _) (by simp)
    simp [isF_ordT, fld_above, so_ixTF (f := mrow n T) (o := false) hx rfl]
    simp [mrow, mask_members (show n ≤ 100 by omega)]
    refine ⟨by omega, ?_⟩
    have hl0 := prs_len (n := n) (T := T) x
    have hx60 : x * n ≤ 3600 := Nat.mul_le_mul (show x ≤ 60 by omega) hn
    refine wp_for (fun i ρ => ∃ v3 : Option D, ρ = [some (ordT n T), some (.n .lst true (((List.range x).flatMap (rowp n T) ++ (rowp n T x).take i).map prD)), some (.a (.int (x : Int))), v3]) ?_ ?_ ?_
    · exact ⟨v3, by simp⟩
    · intro i d ρ hd h
      obtain ⟨v3, hρ⟩ := h
      subst hρ
      obtain ⟨y, hy, e⟩ := natD_get hd
      subst e
      have hr : (rowp n T x)[i]? = some (x, y) := by
        unfold rowp
        rw [List.getElem?_map, hy]
        rfl
      have hi : i < n := by
        have := (List.getElem?_eq_some_iff.mp hy).1
        omega
      rw [List.take_succ, hr]
      generalize (List.range x).flatMap (rowp n T) = A at *
      simp [natD, prD]
      omega
    · intro ρ h
      obtain ⟨v3, hρ⟩ := h
      subst hρ
      have e : (rowp n T x).take (((List.range n).filter (T x)).map natD).length = rowp n T x := List.take_of_length_le (by simp [rowp])
      rw [e]
      exact ⟨some (.a (.int (x : Int))), v3, by rw [prs_take]⟩
  · intro ρ h
    obtain ⟨v2, v3, hρ⟩ := h
    subst hρ
    simp [prs]
theorem below_eq {n : Nat} {T : Tb} (hn : n ≤ 60) : F_Order_below [ordT n T] = .rt (.n .tup false (vec n (mrow n fun y x => T x y))) none := by
  apply wf_eq
  unfold F_Order_below
  rw [wf_fn]
  unfold B_Order_below
  simp [ioOf, isF_ordT, fld_n, intL_vec]
  refine ⟨by omega, ?_⟩
  rw [lcL_run (fun _ => true) (fun d => match d with | .a (.int y) => mrow n (fun y x => T x y) y.toNat | _ => d)]
  · rw [wo_ok, vec_all (fv := mrow n fun y x => T x y) (fun i hi => by simp)]
    simp
  · intro d hd
    obtain ⟨y, hy, rfl⟩ := mem_vec hd
    simp [isF_ordT, fld_n, intL_vec]
    refine ⟨by omega, ?_⟩
    rw [lcL_run (tbI fun x => T x y) (fun d => d)]
    · rw [wo_ok, filter_vecI]
      simp
      have hlen : ((List.range n).filter fun x => T x y).length ≤ n := Nat.le_trans (List.length_filter_le _ _) (by simp)
      rw [set_of_eq (.inl rfl) (by omega) (fun x hx => by have := List.mem_range.mp (List.mem_filter.mp hx).1; omega)]
      simp [mrow, mask_setm]
    · intro d hd
      obtain ⟨x, hx, rfl⟩ := mem_vec hd
      simp [isF_ordT, fld_above, so_ixTF (f := mrow n T) (o := false) hx rfl]
      simp [mrow, has_eq, mask_bit, hy, tbI]
end DC
namespace DC
open PySem L2 DL
theorem eqA_refl (x : At) : eqA x x = true := by cases x <;> simp [eqA]
mutual
theorem eqD_refl : ∀ (n : Nat) (d : D), pD n d = true → eqD d d = true
  | _, .a x, _ => by rw [eqD]; exact eqA_refl x
  | 0, .n .tup _ _, h => by simp [pD] at h
  | 0, .n .lst _ _, h => by simp [pD] at h
  | n + 1, .n .tup _ xs, h => by
    rw [eqD]
    exact eqDL_refl n xs (by simpa [pD] using h)
  | n + 1, .n .lst _ xs, h => by
    rw [eqD]
    exact eqDL_refl n xs (by simpa [pD] using h)
  | _, .n .scr _ _, h => by simp [pD] at h
  | _, .n (.dct _) _ _, h => by simp [pD] at h
  | _, .n (.ins _ _) _ _, h => by simp [pD] at h
theorem eqDL_refl : ∀ (n : Nat) (xs : List D), pDL n xs = true → eqDL xs xs = true
  | _, [], _ => by simp [eqDL]
  | n, x :: xs, h => by
    rw [pDL, Bool.and_eq_true] at h
    rw [eqDL, eqD_refl n x h.1, eqDL_refl n xs h.2]
    rfl
end
theorem pDL_all {m : Nat} : ∀ {xs : List D}, (∀ x ∈ xs, pD m x = true) → pDL m xs = true
  | [], _ => by simp [pDL]
  | x :: xs, h => by
    rw [pDL, h x (by simp), pDL_all fun y hy => h y (List.mem_cons_of_mem _ hy)]
    rfl
theorem eq_same {k : Kd} {o o' : Bool} {xs : List D} {P : D → Prop} (hk : k = .tup ∨ k = .lst) (h : ∀ x ∈ xs, pD 59 x = true) : SO (gEq (.n k o xs) (.n k o' xs)) P = P (.a (.bl true)) := by
  have h1 := pDL_all h
  have h2 := eqDL_refl 59 xs h1
  unfold gEq gOr gEqA gEqP
  rcases hk with e | e <;> subst e <;> simp [pD, h1, eqD, h2]
theorem pD_mrow {m n x : Nat} {T : Tb} : pD m (mrow n T x) = true := by
  unfold mrow
  simp [pD]
end DC
namespace DC
open PySem L2 DL
end DC
namespace DC
open PySem L2 DL
def Nms (d : D) : Prop := ∃ l : List Nat, d = .lst true (l.map natD) ∧ (∀ x ∈ l, x < 1009) ∧ l.length ≤ 10000
theorem next_wf {st : D} (h : Nms st) (m : Int) (hm : 0 < m) : WF NoE (fun d io => ∃ v : Int, d = .int v ∧ 0 ≤ v ∧ v < m ∧ ∃ st', io = some st' ∧ Nms st') (F_law_next [st, .int m]) := by
  obtain ⟨l, rfl, hx, hl⟩ := h
  unfold F_law_next
  rw [wf_fn]
  unfold B_law_next
  cases l with
  | nil =>
    simp [ioOf]
    exact ⟨hm, [], by simp, by simp, by simp⟩
  | cons a l =>
    have hs : seqIndex? 0 (l.length + 1) = some 0 := by
      have := seqIx_nat (v := 0) (n := l.length + 1) (by omega) (by omega)
      simpa using this
    have hne : ¬ ((l.length : Int) + 1 = 0) := by omega
    simp [ioOf, hs, hne, natD]
    refine ⟨hm, Int.emod_nonneg _ (by omega), Int.emod_lt_of_pos _ hm, l, rfl, fun x hx' => hx x (by simp [hx']), by simp at hl; omega⟩
end DC
namespace DC
open PySem L2 DL
def cyc : Exn := ⟨"Refused", [("reason", .str "cycle")]⟩
def Irr (n : Nat) (T : Tb) : Prop := ∀ x, x < n → T x x = false
theorem closed_wf {n : Nat} {ps : List (Nat × Nat)} (hr : Bd n ps) (hn : n ≤ 60) (hl : ps.length ≤ 100000) :
    WF (fun e _ => ¬ Irr n (clo n ps) ∧ e = cyc) (fun d io => Irr n (clo n ps) ∧ d = .tup (vec n (mrow n (clo n ps))) ∧ io = none) (F_u_closed [.a (.int (n : Int)), .n .lst false (ps.map prD)]) := by
  unfold F_u_closed
  rw [wf_fn]
  unfold B_u_closed
  simp [ioOf, itemsOf, hl, rep1 (d := .a (.int 0)) rfl (show n ≤ 1000000 by omega)]
  refine ⟨by omega, ?_⟩
  refine wp_for (fun i ρ => ∃ v3 v4 : Option D, ρ = [some (.a (.int (n : Int))), some (.n .lst false (ps.map prD)), some (.n .lst true (vec n (mrow n (base (ps.take i))))), v3, v4]) ?_ ?_ ?_
  · refine ⟨none, none, ?_⟩
    have e : vec n (mrow n (base (ps.take 0))) = vec n fun _ => .a (.int 0) := vec_ext fun i hi => by
      unfold mrow
      rw [mask_congr (g := fun _ => false) (fun z _ => by simp [base])]
      have : mask n (fun _ => false) = 0 := (mask_of (f := fun _ => false) (fun z => by simp)).symm
      rw [this]; rfl
    rw [e]
  · intro i d ρ hd h
    obtain ⟨v3, v4, hρ⟩ := h
    subst hρ
    rw [List.getElem?_map] at hd
    cases hp : ps[i]? with
    | none => rw [hp] at hd; cases hd
    | some p =>
      rw [hp] at hd
      cases hd
      obtain ⟨h1, h2⟩ := hr p (List.mem_of_getElem? hp)
      have h3 : p.2 ≤ 1000000 := by omega
      simp [prD, natD, so_ixL h1, mrow, o_shl1 h3, so_ixN h1, bor_nat, vec_set]
      apply vec_ext
      intro j hj
      unfold mrow
      split
      · rename_i e
        subst e
        rw [show (2 : Int) ^ p.2 = ((2 ^ p.2 : Nat) : Int) by simp, bor_nat]
        congr 3
        apply mask_or
        · intro z hz
          rw [base_take hp, Nat.testBit_two_pow]
          congr 1
          apply decide_eq_decide.mpr
          obtain ⟨a, b⟩ := p
          simp
          exact eq_comm
        · intro z hz
          rw [Nat.testBit_two_pow] at hz
          have : p.2 = z := by simpa using hz
          omega
      · rename_i e
        congr 3
        apply mask_congr
        intro z hz
        rw [base_take hp]
        have : decide ((j, z) = p) = false := decide_eq_false fun q => e (by rw [← q])
        rw [this, Bool.or_false]
  · intro ρ h
    obtain ⟨v3, v4, hρ⟩ := h
    subst hρ
    simp
    refine ⟨by omega, ?_⟩
    refine wp_for (fun k ρ => ∃ v3 v4 : Option D, ρ = [some (.a (.int (n : Int))), some (.n .lst false (ps.map prD)), some (.n .lst true (vec n (mrow n (war (base ps) n k)))), v3, v4]) ?_ ?_ ?_
    · exact ⟨v3, v4, rfl⟩
    · intro y d ρ hd h
      obtain ⟨v3, v4, hρ⟩ := h
      subst hρ
      obtain ⟨rfl, hy⟩ := intL_get hd
      simp
      refine ⟨by omega, ?_⟩
      refine wp_for (fun k ρ => ∃ v3 : Option D, ρ = [some (.a (.int (n : Int))), some (.n .lst false (ps.map prD)), some (.n .lst true (vec n (mrow n (warX (war (base ps) n y) y k)))), v3, some (.a (.int (y : Int)))]) ?_ ?_ ?_
      · exact ⟨v3, rfl⟩
      · intro x d ρ hd h
        obtain ⟨v3, hρ⟩ := h
        subst hρ
        obtain ⟨rfl, hx⟩ := intL_get hd
        have hx0 : (0 : Int) + (x : Int) = (x : Int) := by omega
        simp [so_ixL hx, so_ixL hy, mrow, has_eq, so_ixN hx, bor_nat, vec_set, mask_bit]
        have key : ∀ j z, warX (war (base ps) n y) y (x + 1) j z = if j = x then warX (war (base ps) n y) y x j z || (warX (war (base ps) n y) y x x y && warX (war (base ps) n y) y x y z) else warX (war (base ps) n y) y x j z := fun j z => rfl
        split
        · rename_i hc
          apply vec_ext
          intro j hj
          unfold mrow
          split
          · rename_i e
            subst e
            congr 3
            apply mask_or
            · intro z hz
              rw [key, if_pos rfl, hc.2, mask_bit, Bool.true_and]
              simp [hz]
            · intro z hz
              rw [mask_bit, Bool.and_eq_true] at hz
              exact of_decide_eq_true hz.1
          · rename_i e
            congr 3
            apply mask_congr
            intro z hz
            rw [key, if_neg e]
        · rename_i hc
          apply vec_ext
          intro j hj
          unfold mrow
          congr 3
          apply mask_congr
          intro z hz
          rw [key]
          split
          · rename_i e
            subst e
            cases hT : warX (war (base ps) n y) y j j y with
            | false => simp
            | true => exact absurd ⟨hy, hT⟩ hc
          · rfl
      · intro ρ h
        obtain ⟨v3, hρ⟩ := h
        subst hρ
        rw [intL_len]
        exact ⟨_, _, rfl⟩
    · intro ρ h
      obtain ⟨v3, v4, hρ⟩ := h
      subst hρ
      rw [intL_len]
      simp
      refine ⟨by omega, ?_⟩
      refine wp_for (fun k ρ => (∀ x, x < k → clo n ps x x = false) ∧ ∃ v3 : Option D, ρ = [some (.a (.int (n : Int))), some (.n .lst false (ps.map prD)), some (.n .lst false (vec n (mrow n (clo n ps)))), v3, v4]) ?_ ?_ ?_
      · exact ⟨fun x hx => absurd hx (Nat.not_lt_zero _), v3, rfl⟩
      · intro x d ρ hd h
        obtain ⟨hlt, v3, hρ⟩ := h
        subst hρ
        obtain ⟨rfl, hx⟩ := intL_get hd
        have hx0 : (0 : Int) + (x : Int) = (x : Int) := by omega
        rw [hx0]
        simp [so_ixLF (f := mrow n (clo n ps)) (o := false) hx rfl]
        simp [mrow, has_eq, mask_bit, hx]
        cases hT : clo n ps x x with
        | true =>
          simp [okStr]
          refine ⟨by decide +kernel, ⟨fun hi => ?_, rfl⟩⟩
          rw [hi x hx] at hT
          cases hT
        | false =>
          simp
          intro y hy
          rcases Nat.lt_or_ge y x with h | h
          · exact hlt y h
          · have : y = x := by omega
            subst this
            exact hT
      · intro ρ h
        obtain ⟨hlt, v3, hρ⟩ := h
        subst hρ
        rw [intL_len] at hlt
        simp
        exact hlt
theorem checked_any {k : Kd} (hk : k = .lst ∨ k = .tup) {n : Nat} {ps : List (Nat × Nat)} (h : Bd n ps) (hl : ps.length ≤ 100000) : F_u_checked_pairs [.a (.int (n : Int)), .n k false (ps.map prD)] = .rt (.n .lst false (ps.map prD)) none := by
  apply wf_eq
  unfold F_u_checked_pairs
  rw [wf_fn]
  unfold B_u_checked_pairs
  have e1 : ∀ P : D → Prop, SO (gIsi2 "list" "tuple" (.n k false (ps.map prD))) P = P (.a (.bl true)) := fun P => by
    rcases hk with rfl | rfl <;> simp [gIsi2, tyN, isiT]
  have e2 : ∀ P : List D → Prop, SO (itemsOf (.n k false (ps.map prD))) P = P (ps.map prD) := fun P => by
    rcases hk with rfl | rfl <;> simp <;> omega
  simp [ioOf, e1, e2]
  refine wp_for (fun i ρ => ∃ v3 v4 : Option D, ρ = [some (.a (.int (n : Int))), some (.n k false (ps.map prD)), some (.n .lst true ((ps.map prD).take i)), v3, v4]) ?_ ?_ ?_
  · exact ⟨none, none, rfl⟩
  · intro i d ρ hd h
    obtain ⟨v3, v4, hρ⟩ := h
    subst hρ
    rw [List.getElem?_map] at hd
    cases hp : ps[i]? with
    | none => rw [hp] at hd; cases hd
    | some p =>
      rw [hp] at hd
      cases hd
      obtain ⟨h1, h2⟩ := h p (List.mem_of_getElem? hp)
      simp [prD, natD, o_isi (t := "tuple") (d := .n .tup false _) rfl, isiT, itemsOf]
      refine wp_for (fun j ρ => ∃ v4 : Option D, ρ = [some (.a (.int (n : Int))), some (.n k false (ps.map prD)), some (.n .lst true ((ps.map prD).take i)), some (.n .tup false [natD p.1, natD p.2]), v4]) ?_ ?_ ?_
      · exact ⟨v4, rfl⟩
      · intro j d ρ hd h
        obtain ⟨v4, hρ⟩ := h
        subst hρ
        have key : ∃ x : Nat, d = .a (.int (x : Int)) ∧ x < n := by
          match j, hd with
          | 0, hd => cases hd; exact ⟨_, rfl, h1⟩
          | 1, hd => cases hd; exact ⟨_, rfl, h2⟩
          | (k + 2), hd => simp at hd
        obtain ⟨x, rfl, hx⟩ := key
        simp [isint_eq]
        exact hx
      · intro ρ h
        obtain ⟨v4, hρ⟩ := h
        subst hρ
        simp
        refine ⟨by omega, ?_⟩
        rw [List.take_succ, List.getElem?_map, hp]
        rfl
  · intro ρ h
    obtain ⟨v3, v4, hρ⟩ := h
    subst hρ
    have e : List.take (ps.map prD).length (ps.map prD) = ps.map prD := List.take_of_length_le (Nat.le_refl _)
    simp only [List.length_map] at e
    simp [e]
theorem init_wf {k : Kd} (hk : k = .lst ∨ k = .tup) {n : Nat} {ps : List (Nat × Nat)} (h : Bd n ps) (hn : n ≤ 10) (hl : ps.length ≤ 100000) :
    WF (fun e _ => ¬ Irr n (clo n ps) ∧ e = cyc) (fun d io => Irr n (clo n ps) ∧ d = .a .non ∧ io = some (.n (.ins "Order" ["n", "above"]) true [.a (.int (n : Int)), .n .tup false (vec n (mrow n (clo n ps)))]))
      (F_OrderU_initU [.n (.ins "Order" []) true [], .a (.int (n : Int)), .n k false (ps.map prD)]) := by
  have hc := closed_wf h (show n ≤ 60 by omega) hl
  have hk2 := checked_any hk h hl
  have hf : isF (.n k false (ps.map prD)) = true := by simp
  unfold F_OrderU_initU
  rw [wf_fn]
  unfold B_OrderU_initU
  have hneg : ¬ (n : Int) < 0 := by omega
  have hbig : ¬ (10 : Int) < n := by omega
  simp [ioOf, isint_eq, hk2, hneg, hbig]
  cases hF : F_u_closed [.a (.int (n : Int)), .n .lst false (ps.map prD)] with
  | st => rw [hF] at hc; exact hc.elim
  | ex e io => rw [hF] at hc; simp; exact hc
  | rt d io =>
    rw [hF] at hc
    obtain ⟨h1, rfl, rfl⟩ := hc
    simp
    exact ⟨by decide +kernel, h1⟩
end DC
namespace DL
open PySem L2
@[irreducible] def WX (Q : Ps) (f : DL.Env → Fl) (ρ : DL.Env) : Prop := WP Q (f ρ)
@[simp] theorem wx {Q : Ps} {f : DL.Env → Fl} {ρ : DL.Env} : WX Q f ρ = WP Q (f ρ) := by unfold WX; rfl
theorem wp_step {Q : Ps} {f g : DL.Env → Fl} {ρ : DL.Env} (h : ∀ K : DL.Env → Prop, (∀ ρ', WP Q (g ρ') → K ρ') → WX ⟨K, Q.rt, Q.bk, Q.ct, Q.ex⟩ f ρ) : WP Q (dSeq f g ρ) := by
  rw [p_Seq]
  have := h _ fun _ h => h
  rwa [wx] at this
theorem wp_cut {Q : Ps} {f g : DL.Env → Fl} {ρ : DL.Env} (R : DL.Env → Prop) (h1 : WP ⟨R, Q.rt, Q.bk, Q.ct, Q.ex⟩ (f ρ)) (h2 : ∀ ρ', R ρ' → WP Q (g ρ')) : WP Q (dSeq f g ρ) := by
  rw [p_Seq]
  cases hf : f ρ with
  | nx ρ1 => rw [hf] at h1; exact h2 _ h1
  | rt d ρ1 => rw [hf] at h1; exact h1
  | bk ρ1 => rw [hf] at h1; exact h1
  | ct ρ1 => rw [hf] at h1; exact h1
  | ex e ρ1 => rw [hf] at h1; exact h1
  | st => rw [hf] at h1; exact h1
theorem wp_cutK {Q : Ps} {f g : DL.Env → Fl} {ρ : DL.Env} (R : DL.Env → Prop) (h1 : ∀ K : DL.Env → Prop, (∀ ρ', R ρ' → K ρ') → WX ⟨K, Q.rt, Q.bk, Q.ct, Q.ex⟩ f ρ) (h2 : ∀ ρ', R ρ' → WP Q (g ρ')) : WP Q (dSeq f g ρ) := wp_cut R (by have := h1 R fun _ h => h; rwa [wx] at this) h2
section
variable {C : Str} {F : List D → FR} {fs gs : List Str} {xs ys : List D} {b neg : Bool} {io : Option D} {P : D → Prop}
theorem so_own (h1 : isFL xs = true) (h2 : isFL ys = true) (h : F [.n (.ins C fs) false xs, .n (.ins C gs) false ys] = .rt (.a (.bl b)) io) : SO (gOwn C F neg (.n (.ins C fs) false xs) (.n (.ins C gs) false ys)) P = P (.a (.bl (if neg = true then !b else b))) := by
  unfold gOwn
  simp [h1, h2, h]
end
end DL
namespace DC
open PySem L2 DL
theorem eqDL_map {α : Type} {f g : α → D} : ∀ l : List α, eqDL (l.map f) (l.map g) = l.all fun i => eqD (f i) (g i)
  | [] => rfl
  | x :: l => by simp [eqDL, eqDL_map l]
theorem eqDL_vec {n : Nat} {f g : Nat → D} : eqDL (vec n f) (vec n g) = (List.range n).all fun i => eqD (f i) (g i) := eqDL_map _
theorem pDL_vec {m n : Nat} {f : Nat → D} (h : ∀ i, i < n → pD m (f i) = true) : pDL m (vec n f) = true := pDL_all fun x hx => by
  obtain ⟨i, hi, rfl⟩ := mem_vec hx
  exact h i hi
theorem so_eqP {d e : D} {P : D → Prop} (h1 : pD 60 d = true) (h2 : pD 60 e = true) (h3 : ∀ x y, ¬ (d = .a x ∧ e = .a y)) : SO (gEq d e) P = P (.a (.bl (eqD d e))) := by
  unfold gEq gOr gEqP
  have : gEqA d e = none := by
    unfold gEqA
    split
    · rename_i x y
      exact absurd ⟨rfl, rfl⟩ (h3 x y)
    · rfl
  rw [this]
  simp [h1, h2]
instance {n : Nat} {T : Tb} : Decidable (Irr n T) := inferInstanceAs (Decidable (∀ x, x < n → T x x = false))
theorem ordeq_gen {n m : Nat} {T S : Tb} : F_OrderU_eqU [ordT n T, ordT m S] = .rt (.a (.bl (decide (n = m ∧ ∀ x, x < n → mask n (T x) = mask n (S x))))) none := by
  apply wf_eq
  unfold F_OrderU_eqU
  rw [wf_fn]
  unfold B_OrderU_eqU
  have h1 : ∀ P : D → Prop, SO (gIsiA "Order" (ordT m S)) P = P (.a (.bl true)) := fun P => by
    unfold ordT ordD
    simp
  simp [ioOf, isF_ordT, h1, fld_n, fld_above]
  by_cases h : n = m
  · subst h
    simp
    rw [so_eqP (by simp [pD]; exact pDL_vec fun _ _ => pD_mrow) (by simp [pD]; exact pDL_vec fun _ _ => pD_mrow) (fun x y h => by cases h.1)]
    simp [eqD, eqDL_vec, mrow, eqA]
    rw [Bool.eq_iff_iff]
    simp
    constructor
    · intro h x hx
      have := h x hx
      omega
    · intro h x hx
      rw [h x hx]
  · have : ¬ (n : Int) = m := by omega
    simp [h, this]
theorem size_eq {n : Nat} {T : Tb} : F_Order_size [ordT n T] = .rt (.a (.int (n : Int))) none := by
  apply wf_eq
  unfold F_Order_size
  rw [wf_fn]
  unfold B_Order_size
  simp [ioOf, isF_ordT, fld_n]
end DC
namespace DL
open PySem L2
theorem get_set_self {ρ : DL.Env} {i : Nat} {o : Option D} (h : i < ρ.length) : (ρ.set i o)[i]? = some o := by rw [List.getElem?_set_self h]
theorem get_set_ne {ρ : DL.Env} {i j : Nat} {o : Option D} (h : i ≠ j) : (ρ.set i o)[j]? = ρ[j]? := by rw [List.getElem?_set_ne h]
theorem set_set {ρ : DL.Env} {i : Nat} {o o' : Option D} : (ρ.set i o).set i o' = ρ.set i o' := List.set_set ..
theorem set_comm' {ρ : DL.Env} {i j : Nat} {o o' : Option D} (h : i ≠ j) : (ρ.set i o).set j o' = (ρ.set j o').set i o := List.set_comm _ _ h
theorem back_same {ρ : DL.Env} {v : Nat} (h : ∀ d, ρ[v]? = some (some d) → isF d = true) : backE ρ [v] (wipeE ρ [v]) = ρ := by
  rw [wipeE_cons, wipeE_nil]
  unfold backE
  cases e : ρ[v]? with
  | none =>
    rw [backE_nil]
    have hl : ρ.length ≤ v := List.getElem?_eq_none_iff.mp e
    exact List.set_eq_of_length_le hl
  | some o =>
    have hl : v < ρ.length := (List.getElem?_eq_some_iff.mp e).1
    cases o with
    | none =>
      dsimp only
      rw [backE_nil]
      apply List.ext_getElem?
      intro j
      by_cases q : v = j
      · subst q; rw [List.getElem?_set_self hl, e]
      · rw [List.getElem?_set_ne q]
    | some d =>
      dsimp only
      rw [backE_nil, if_pos ⟨h d e, by rw [List.length_set]; exact hl⟩, List.set_set]
      apply List.ext_getElem?
      intro j
      by_cases q : v = j
      · subst q; rw [List.getElem?_set_self hl, e]
      · rw [List.getElem?_set_ne q]
theorem w_lcF {E : Exn → DL.Env → Prop} {P : D → DL.Env → Prop} {ρ : DL.Env} {v : Nat} {src : DL.Env → Out (List D)} {t : DL.Env → Out Bool} {f : DL.Env → Out D} {ds : List D} (tb : D → Bool) (fv : D → D) (hv : ∀ d, ρ[v]? = some (some d) → isF d = true) (hl : v < ρ.length) (hsrc : src ρ = .ok ds ρ) (hc : ds.length ≤ 1000000)
    (ht : ∀ d ∈ ds, t (ρ.set v (some d)) = .ok (tb d) (ρ.set v (some d))) (hf : ∀ d ∈ ds, tb d = true → f (ρ.set v (some d)) = .ok (fv d) (ρ.set v (some d))) :
    WO E P (dLc [v] src (tg1 v) t f ρ) = P (.lst true ((ds.filter tb).map fv)) ρ := by
  rw [w_Lc, hsrc]
  simp only [wo_ok, capv, hc, true_and]
  have hw : wipeE ρ [v] = ρ.set v none := rfl
  rw [lcL_run tb fv]
  · rw [wo_ok, hw]
    have : wipeE (ρ.set v none) [v] = wipeE ρ [v] := by simp [wipeE]
    rw [this, back_same hv]
  · intro d hd
    rw [hw]
    rw [s_tg1]
    refine ⟨by rw [List.length_set]; exact hl, ?_⟩
    rw [List.set_set, ht d hd, wo_ok]
    refine ⟨rfl, ?_⟩
    cases h : tb d with
    | true =>
      rw [if_pos rfl, hf d hd h, wo_ok]
      exact ⟨rfl, by simp [wipeE]⟩
    | false =>
      rw [if_neg (by decide)]
      simp [wipeE]
theorem w_lcA {E : Exn → DL.Env → Prop} {P : D → DL.Env → Prop} {ρ : DL.Env} {v : Nat} {src : DL.Env → Out (List D)} {f : DL.Env → Out D} {ds : List D} (fv : D → D) (hv : ∀ d, ρ[v]? = some (some d) → isF d = true) (hl : v < ρ.length) (hsrc : src ρ = .ok ds ρ) (hc : ds.length ≤ 1000000)
    (hf : ∀ d ∈ ds, f (ρ.set v (some d)) = .ok (fv d) (ρ.set v (some d))) : WO E P (dLc [v] src (tg1 v) dYes f ρ) = P (.lst true (ds.map fv)) ρ := by
  rw [w_lcF (t := dYes) (fun _ => true) fv hv hl hsrc hc (fun d hd => rfl) (fun d hd _ => hf d hd)]
  have : ds.filter (fun _ => true) = ds := List.filter_eq_self.mpr fun _ _ => rfl
  rw [this]
theorem out_eq {α : Type} {o : Out α} {x : α} {ρ : DL.Env} (h : WO NoE (fun y ρ' => y = x ∧ ρ' = ρ) o) : o = .ok x ρ := by
  cases o with
  | ok y ρ' => obtain ⟨rfl, rfl⟩ := h; rfl
  | ex e ρ' => exact h.elim
  | st => exact h.elim
end DL
namespace DC
open PySem L2 DL
def natOf : D → Nat
  | .a (.int i) => i.toNat
  | _ => 0
@[simp] theorem natOf_int {i : Nat} : natOf (.a (.int (i : Int))) = i := rfl
@[simp] theorem natOf_natD {i : Nat} : natOf (natD i) = i := rfl
theorem wp_prs {Q : Ps} {ρ : DL.Env} {a i j l n : Nat} {t : DL.Env → Out Bool} {T : Tb} (hij : i ≠ j) (hil : i ≠ l) (hjl : j ≠ l) (hai : a ≠ i) (haj : a ≠ j) (hal : a ≠ l) (hi : i < ρ.length) (hj : j < ρ.length) (hl : l < ρ.length) (ha : ρ[a]? = some (some (.a (.int (n : Int))))) (hn : n ≤ 500) (h0 : ρ[l]? = some (some (.lst true [])))
    (ht : ∀ x y, x < n → y < n → ∀ ps : List (Nat × Nat), t (((ρ.set l (some (.lst true (ps.map DC.prD)))).set i (some (natD x))).set j (some (natD y))) = .ok (T x y) (((ρ.set l (some (.lst true (ps.map DC.prD)))).set i (some (natD x))).set j (some (natD y))))
    (hq : ∀ vi vj, Q.nx (((ρ.set l (some (.lst true ((prs n T).map DC.prD)))).set i vi).set j vj)) :
    WP Q (dFor (dRng1 (dVar a)) (tg1 i) (dFor (dRng1 (dVar a)) (tg1 j) (dIf t (dHas l (dBind (dTup (dACons (dVar i) (dACons (dVar j) dANil))) (stApp l))) dNext)) ρ) := by
  have hρl : ρ = ρ.set l (some (.lst true (([] : List (Nat × Nat)).map DC.prD))) := by
    apply List.ext_getElem?
    intro k
    by_cases q : l = k
    · subst q; rw [get_set_self hl, h0]; rfl
    · rw [get_set_ne q]
  have hset : ∀ (ρ : DL.Env) (k : Nat) (o : Option D), ρ[k]? = some o → ρ.set k o = ρ := fun ρ k o h => by
    apply List.ext_getElem?
    intro m
    by_cases q : k = m
    · subst q; rw [get_set_self (List.getElem?_eq_some_iff.mp h).1, h]
    · rw [get_set_ne q]
  obtain ⟨oi, hoi⟩ : ∃ o, ρ[i]? = some o := ⟨_, List.getElem?_eq_getElem hi⟩
  obtain ⟨oj, hoj⟩ : ∃ o, ρ[j]? = some o := ⟨_, List.getElem?_eq_getElem hj⟩
  rw [p_For, w_Rng1, w_Var, ha]
  simp only [so_some, isF_a, true_and, asI_int, Int.toNat_natCast]
  refine ⟨by omega, ?_⟩
  refine wp_for (fun x ρ' => ∃ vi vj, ρ' = ((ρ.set l (some (.lst true (((List.range x).flatMap (rowp n T)).map DC.prD)))).set i vi).set j vj) ?_ ?_ ?_
  · refine ⟨oi, oj, ?_⟩
    simp only [List.range_zero, List.flatMap_nil]
    rw [← hρl, hset ρ i _ hoi, hset ρ j _ hoj]
  · rintro x d ρ' hd ⟨vi, vj, rfl⟩
    obtain ⟨rfl, hx⟩ := intL_get hd
    rw [show (0 : Int) + (x : Int) = x by omega, s_tg1]
    refine ⟨by simpa using hi, ?_⟩
    rw [set_comm' (Ne.symm hij), set_set]
    rw [p_For, w_Rng1, w_Var, get_set_ne (Ne.symm haj), get_set_ne (Ne.symm hai), get_set_ne (Ne.symm hal), ha]
    simp only [so_some, isF_a, true_and, asI_int, Int.toNat_natCast]
    refine ⟨by omega, ?_⟩
    refine wp_for (fun y ρ' => ∃ vj, ρ' = ((ρ.set l (some (.lst true (((List.range x).flatMap (rowp n T) ++ ((List.range y).filter (T x)).map fun y => (x, y)).map DC.prD)))).set i (some (natD x))).set j vj) ?_ ?_ ?_
    · refine ⟨vj, ?_⟩
      simp only [List.range_zero, List.filter_nil, List.map_nil, List.append_nil]
      rfl
    · rintro y d ρ' hd ⟨vj, rfl⟩
      obtain ⟨rfl, hy⟩ := intL_get hd
      rw [show (0 : Int) + (y : Int) = y by omega, s_tg1]
      refine ⟨by simpa using hj, ?_⟩
      rw [set_set]
      have hty := ht x y hx hy ((List.range x).flatMap (rowp n T) ++ ((List.range y).filter (T x)).map fun y => (x, y))
      rw [p_If]
      show WO _ _ (t (((ρ.set l _).set i (some (natD x))).set j (some (natD y))))
      rw [hty, wo_ok]
      have hlen : ((List.range x).flatMap (rowp n T) ++ ((List.range y).filter (T x)).map fun y => (x, y)).length < 1000000 := by
        have h1 := prs_len (n := n) (T := T) x
        have h2 : ((List.range y).filter (T x)).length ≤ y := Nat.le_trans (List.length_filter_le _ _) (by simp)
        rw [List.length_append, List.length_map]
        have h3 : x * n ≤ 500 * 500 := Nat.mul_le_mul (by omega) hn
        omega
      cases hT : T x y with
      | true =>
        rw [if_pos rfl, p_Has, get_set_ne hjl, get_set_ne hil, get_set_self hl]
        simp only [so_some, true_and]
        simp only [p_Bind, w_Tup, w_ACons, w_ANil, w_Var, get_set_ne hij.symm, get_set_self (show i < (ρ.set l _).length by simpa using hi), get_set_self (show j < ((ρ.set l _).set i _).length by simpa using hj), wo_ok, so_some, isF_natD, true_and]
        simp
        rw [get_set_ne hjl, get_set_ne hil, get_set_self hl]
        simp
        refine ⟨by simpa using hlen, ?_⟩
        refine ⟨some (natD y), ?_⟩
        rw [set_comm' hjl, set_comm' hil, set_set]
        congr 4
        rw [List.range_succ, List.filter_append, List.map_append]
        simp [hT, DC.prD]
      | false =>
        rw [if_neg (by decide), p_Next]
        refine ⟨some (natD y), ?_⟩
        congr 8
        rw [List.range_succ, List.filter_append]
        simp [hT]
    · rintro ρ' ⟨vj, rfl⟩
      rw [intL_len]
      refine ⟨some (natD x), vj, ?_⟩
      rw [prs_take]
      rfl
  · rintro ρ' ⟨vi, vj, rfl⟩
    rw [intL_len]
    exact hq vi vj
end DC
namespace DL
open PySem L2
theorem lcL_noex {vs : List Nat} {g : D → DL.Env → Option DL.Env} {t : DL.Env → Out Bool} {f : DL.Env → Out D} : ∀ {ds : List D} {ρ : DL.Env} (e : Exn) (ρ' : DL.Env), lcL vs g t f ds ρ ≠ .ex e ρ'
  | [], ρ, e, ρ' => by unfold lcL; exact fun h => nomatch h
  | d :: ds, ρ, e, ρ' => by
    unfold lcL
    cases g d ρ with
    | none => exact fun h => nomatch h
    | some ρ1 =>
      dsimp only
      cases t ρ1 with
      | st => exact fun h => nomatch h
      | ex e ρ2 => exact fun h => nomatch h
      | ok b ρ2 =>
        cases b with
        | false => exact lcL_noex e ρ'
        | true =>
          dsimp only
          cases f ρ2 with
          | st => exact fun h => nomatch h
          | ex e ρ3 => exact fun h => nomatch h
          | ok y ρ3 =>
            dsimp only
            cases lcL vs g t f ds (wipeE ρ3 vs) <;> exact fun h => nomatch h
theorem wo_lcL {E : Exn → DL.Env → Prop} {P : List D → DL.Env → Prop} {vs : List Nat} {g : D → DL.Env → Option DL.Env} {t : DL.Env → Out Bool} {f : DL.Env → Out D} {ds : List D} {ρ : DL.Env} (I : Nat → List D → DL.Env → Prop) (h0 : I 0 [] ρ)
    (hs : ∀ i d ys ρ, ds[i]? = some d → I i ys ρ → SO (g d ρ) fun ρ1 => WO NoE (fun b ρ2 => if b = true then WO NoE (fun y ρ3 => I (i + 1) (ys ++ [y]) (wipeE ρ3 vs)) (f ρ2) else I (i + 1) ys (wipeE ρ2 vs)) (t ρ1))
    (he : ∀ ys ρ, I ds.length ys ρ → P ys ρ) : WO E P (lcL vs g t f ds ρ) := by
  have key : ∀ (es : List D) (k : Nat) (ys : List D) (ρ : DL.Env) (P' : List D → DL.Env → Prop), (∀ i, es[i]? = ds[k + i]?) → k + es.length = ds.length → I k ys ρ → (∀ zs ρ', I ds.length (ys ++ zs) ρ' → P' zs ρ') → WO E P' (lcL vs g t f es ρ) := by
    intro es
    induction es with
    | nil =>
      intro k ys ρ P' _ hl hI hP
      have : k = ds.length := by simpa using hl
      subst this
      exact hP [] ρ (by simpa using hI)
    | cons d es ih =>
      intro k ys ρ P' hd hl hI hP
      have h1 : ds[k]? = some d := by
        have := hd 0
        simpa using this.symm
      have h2 := hs k d ys ρ h1 hI
      have hd' : ∀ i, es[i]? = ds[(k + 1) + i]? := fun i => by
        have := hd (i + 1)
        rw [List.getElem?_cons_succ] at this
        rw [this]
        congr 1
        omega
      have hl' : (k + 1) + es.length = ds.length := by simp at hl; omega
      unfold lcL
      cases hg : g d ρ with
      | none => rw [hg] at h2; exact h2.elim
      | some ρ1 =>
        rw [hg] at h2
        dsimp only [so_some] at h2 ⊢
        cases ht : t ρ1 with
        | st => rw [ht] at h2; exact h2.elim
        | ex e ρ2 => rw [ht] at h2; exact h2.elim
        | ok b ρ2 =>
          rw [ht] at h2
          dsimp only [wo_ok] at h2
          cases b with
          | false =>
            rw [if_neg (by decide)] at h2
            exact ih (k + 1) ys _ P' hd' hl' h2 hP
          | true =>
            rw [if_pos rfl] at h2
            dsimp only
            cases hf : f ρ2 with
            | st => rw [hf] at h2; exact h2.elim
            | ex e ρ3 => rw [hf] at h2; exact h2.elim
            | ok y ρ3 =>
              rw [hf] at h2
              dsimp only
              have h3 := ih (k + 1) (ys ++ [y]) (wipeE ρ3 vs) (fun zs ρ' => P' (y :: zs) ρ') hd' hl' h2 (fun zs ρ' hz => hP (y :: zs) ρ' (by simpa using hz))
              cases hr : lcL vs g t f es (wipeE ρ3 vs) with
              | st => rw [hr] at h3; exact h3.elim
              | ex e ρ4 => rw [hr] at h3; exact absurd hr (lcL_noex e ρ4)
              | ok zs ρ4 => rw [hr] at h3; exact h3
  exact key ds 0 [] ρ P (fun i => by rw [Nat.zero_add]) (by omega) h0 (fun zs ρ' hz => he zs ρ' (by simpa using hz))
end DL
namespace DC
open PySem L2 DL
def Tr (n : Nat) (T : Tb) : Prop := ∀ a b c, a < n → b < n → c < n → T a b = true → T b c = true → T a c = true
theorem mem_rowp {n : Nat} {T : Tb} {z x y : Nat} : (x, y) ∈ rowp n T z ↔ x = z ∧ y < n ∧ T z y = true := by
  unfold rowp
  rw [List.mem_map]
  constructor
  · rintro ⟨w, hw, e⟩
    rw [List.mem_filter, List.mem_range] at hw
    cases e
    exact ⟨rfl, hw⟩
  · rintro ⟨rfl, h⟩
    exact ⟨y, List.mem_filter.mpr ⟨List.mem_range.mpr h.1, h.2⟩, rfl⟩
theorem mem_prs {n : Nat} {T : Tb} {x y : Nat} : (x, y) ∈ prs n T ↔ x < n ∧ y < n ∧ T x y = true := by
  unfold prs
  rw [List.mem_flatMap]
  constructor
  · rintro ⟨z, hz, h⟩
    obtain ⟨rfl, h⟩ := mem_rowp.mp h
    exact ⟨List.mem_range.mp hz, h⟩
  · rintro ⟨h1, h⟩
    exact ⟨x, List.mem_range.mpr h1, mem_rowp.mpr ⟨rfl, h⟩⟩
theorem prs_bd {n : Nat} {T : Tb} : Bd n (prs n T) := fun p hp => by
  obtain ⟨x, y⟩ := p
  have := mem_prs.mp hp
  exact ⟨this.1, this.2.1⟩
theorem prs_lenn {n : Nat} {T : Tb} : (prs n T).length ≤ n * n := prs_len n
theorem clo_of {n : Nat} {ps : List (Nat × Nat)} {T : Tb} (hb : Bd n ps) (hm : ∀ x y, x < n → y < n → ((x, y) ∈ ps ↔ T x y = true)) (ht : Tr n T) {a b : Nat} (h1 : a < n) (h2 : b < n) : clo n ps a b = T a b := by
  rw [Bool.eq_iff_iff]
  constructor
  · intro e
    have := clo_least (R := fun a b => a < n ∧ b < n ∧ T a b = true) hb (fun p hp => ⟨(hb p hp).1, (hb p hp).2, (hm p.1 p.2 (hb p hp).1 (hb p hp).2).mp hp⟩) (fun a m b h1 h2 => ⟨h1.1, h2.2.1, ht a m b h1.1 h1.2.1 h2.2.1 h1.2.2 h2.2.2⟩) e
    exact this.2.2
  · intro e
    exact clo_base (p := (a, b)) hb ((hm a b h1 h2).mpr e)
theorem clo_prs {n : Nat} {T : Tb} (ht : Tr n T) {a b : Nat} (h1 : a < n) (h2 : b < n) : clo n (prs n T) a b = T a b := clo_of prs_bd (fun x y hx hy => by rw [mem_prs]; simp [hx, hy]) ht h1 h2
theorem clo_tr {n : Nat} {ps : List (Nat × Nat)} (h : Bd n ps) : Tr n (clo n ps) := fun a b c _ _ _ h1 h2 => clo_trans h h1 h2
theorem acyc_irr {n : Nat} {ps : List (Nat × Nat)} (h : Acyc n ps) : Irr n (clo n ps) := fun x _ => clo_irr h x
theorem mrow_congr {n m : Nat} {T S : Tb} (h : ∀ a b, a < m → b < n → T a b = S a b) : vec m (mrow n T) = vec m (mrow n S) := vec_ext fun a ha => by
  unfold mrow
  rw [mask_congr fun b hb => h a b ha hb]
theorem ordT_congr {n : Nat} {T S : Tb} (h : ∀ a b, a < n → b < n → T a b = S a b) : ordT n T = ordT n S := by
  unfold ordT
  rw [mrow_congr h]
abbrev bldO (n : Nat) (T : Tb) : D := .n (.ins "Order" ["n", "above"]) true [.a (.int (n : Int)), .n .tup false (vec n (mrow n T))]
theorem frz_bldO {n : Nat} {T : Tb} : frz (bldO n T) = ordT n T := by
  unfold ordT ordD
  simp
theorem frz_ordT {n : Nat} {T : Tb} : frz (ordT n T) = ordT n T := frz_isF _ isF_ordT
theorem mk_of {k : Kd} (hk : k = .lst ∨ k = .tup) {n : Nat} {ps : List (Nat × Nat)} {T : Tb} (hb : Bd n ps) (hT : ∀ a b, a < n → b < n → clo n ps a b = T a b) (hi : Irr n T) (hn : n ≤ 10) (hl : ps.length ≤ 100000) : F_OrderU_initU [.n (.ins "Order" []) true [], .a (.int (n : Int)), .n k false (ps.map prD)] = .rt (.a .non) (some (bldO n T)) := by
  have h := init_wf hk hb hn hl
  have hi' : Irr n (clo n ps) := fun x hx => by rw [hT x x hx hx]; exact hi x hx
  unfold bldO
  rw [← mrow_congr hT]
  cases hF : F_OrderU_initU [.n (.ins "Order" []) true [], .a (.int (n : Int)), .n k false (ps.map prD)] with
  | st => rw [hF] at h; exact h.elim
  | ex e io => rw [hF] at h; exact absurd hi' h.1
  | rt d io =>
    rw [hF] at h
    obtain ⟨_, rfl, rfl⟩ := h
    rfl
theorem mk_prs {k : Kd} (hk : k = .lst ∨ k = .tup) {n : Nat} {T : Tb} (ht : Tr n T) (hi : Irr n T) (hn : n ≤ 10) : F_OrderU_initU [.n (.ins "Order" []) true [], .a (.int (n : Int)), .n k false ((prs n T).map prD)] = .rt (.a .non) (some (bldO n T)) := mk_of hk prs_bd (fun a b h1 h2 => clo_prs ht h1 h2) hi hn (by
  have := prs_lenn (n := n) (T := T)
  have h2 : n * n ≤ 10 * 10 := Nat.mul_le_mul hn hn
  omega)
end DC
namespace DC
open PySem L2 DL
theorem nfp : ¬ ("pairs" : Str) = "n" ∧ ¬ ("pairs" : Str) = "above" := by decide +kernel
theorem nfl : ¬ ("less" : Str) = "n" ∧ ¬ ("less" : Str) = "above" := by decide +kernel
theorem nfs : ¬ ("size" : Str) = "n" ∧ ¬ ("size" : Str) = "above" := by decide +kernel
theorem pairs_eq' {n : Nat} {T : Tb} (hn : n ≤ 60) : F_Order_pairs [.n (.ins "Order" ["n", "above"]) false [.a (.int (n : Int)), .n .tup false (vec n (mrow n T))]] = .rt (.n .tup false ((prs n T).map prD)) none := pairs_eq hn
theorem less_eq' {n x y : Nat} {T : Tb} (hx : x < n) (hy : y < n) : F_Order_less [.n (.ins "Order" ["n", "above"]) false [.a (.int (n : Int)), .n .tup false (vec n (mrow n T))], .a (.int (x : Int)), .a (.int (y : Int))] = .rt (.a (.bl (T x y))) none := less_eq hx hy
theorem size_eq' {n : Nat} {T : Tb} : F_Order_size [.n (.ins "Order" ["n", "above"]) false [.a (.int (n : Int)), .n .tup false (vec n (mrow n T))]] = .rt (.a (.int (n : Int))) none := size_eq
@[simp] theorem o_listT {o : Bool} {xs : List D} {P : D → Prop} : SO (gList (.n .tup o xs)) P = P (.lst true xs) := rfl
def fstD : D → Nat
  | .n _ _ (d :: _) => natOf d
  | _ => 0
def sndD : D → Nat
  | .n _ _ (_ :: d :: _) => natOf d
  | _ => 0
@[simp] theorem fstD_pr {p : Nat × Nat} : fstD (prD p) = p.1 := rfl
@[simp] theorem sndD_pr {p : Nat × Nat} : sndD (prD p) = p.2 := rfl
end DC
namespace DL
open PySem L2
section
variable {Q : Ps} {ρ : DL.Env} {i j : Nat} {g : DL.Env → Out (List Ag)}
def as2 (ds : List Ag) (P : D → D → Prop) : Prop := match ds with
  | [.d a, .d b] => P a b
  | _ => False
@[simp] theorem as2_two {a b : D} {P : D → D → Prop} : as2 [.d a, .d b] P = P a b := rfl
@[simp] theorem p_Par : WP Q (dPar i j g ρ) = WO Q.ex (fun ds ρ1 => as2 ds fun a b => (i < ρ1.length ∧ j < ρ1.length) ∧ Q.nx ((ρ1.set i (some a)).set j (some b))) (g ρ) := by
  unfold dPar
  cases g ρ with
  | st => rfl
  | ex e ρ1 => rfl
  | ok ds ρ1 =>
    dsimp only [wo_ok]
    match ds with
    | [] => rfl
    | [.s _] => rfl
    | [.d _] => rfl
    | [.s _, .s _] => rfl
    | [.s _, .d _] => rfl
    | [.d _, .s _] => rfl
    | [.d a, .d b] =>
      dsimp only [as2]
      split
      · rename_i h; simp [h]
      · rename_i h; simp only [h, false_and]; rfl
    | _ :: _ :: _ :: _ =>
      rename_i a b c d
      cases a <;> cases b <;> rfl
end
theorem wp_forK {Q : Ps} {ρ : DL.Env} {f : DL.Env → Fl} {g : D → DL.Env → Option DL.Env} {ds : List D} (I : Nat → DL.Env → Prop) (h0 : I 0 ρ)
    (hs : ∀ i d ρ, ds[i]? = some d → I i ρ → ∀ J : DL.Env → Prop, (∀ ρ', I (i + 1) ρ' → J ρ') → SO (g d ρ) fun ρ1 => WP ⟨J, Q.rt, Q.nx, J, Q.ex⟩ (f ρ1)) (he : ∀ ρ, I ds.length ρ → Q.nx ρ) : WP Q (forL g f ds ρ) :=
  wp_for I h0 (fun i d ρ hd h => hs i d ρ hd h _ fun _ h => h) he
theorem wo_lcK {E : Exn → DL.Env → Prop} {P : List D → DL.Env → Prop} {vs : List Nat} {g : D → DL.Env → Option DL.Env} {t : DL.Env → Out Bool} {f : DL.Env → Out D} {ds : List D} {ρ : DL.Env} (I : Nat → List D → DL.Env → Prop) (h0 : I 0 [] ρ)
    (hs : ∀ i d ys ρ, ds[i]? = some d → I i ys ρ → ∀ J : List D → DL.Env → Prop, (∀ ys' ρ', I (i + 1) ys' ρ' → J ys' ρ') → SO (g d ρ) fun ρ1 => WO NoE (fun b ρ2 => if b = true then WO NoE (fun y ρ3 => J (ys ++ [y]) (wipeE ρ3 vs)) (f ρ2) else J ys (wipeE ρ2 vs)) (t ρ1))
    (he : ∀ ys ρ, I ds.length ys ρ → P ys ρ) : WO E P (lcL vs g t f ds ρ) :=
  wo_lcL I h0 (fun i d ys ρ hd h => hs i d ys ρ hd h _ fun _ _ h => h) he
theorem wf_exx {r : FR} {e : Exn} (h : WF (fun e' _ => e' = e) (fun _ _ => False) r) : ∃ io, r = .ex e io := by
  cases r with
  | rt d' io' => exact h.elim
  | ex e' io => exact ⟨io, by rw [show e' = e from h]⟩
  | st => exact h.elim
end DL
namespace DC
open PySem L2 DL
theorem vec_succ {n : Nat} {f : Nat → D} : vec (n + 1) f = vec n f ++ [f n] := by simp [vec, List.range_succ]
theorem frzL_rows {n : Nat} {f g : Nat → D} (h : ∀ i, i < n → frz (f i) = g i) : frzL (vec n f) = vec n g := by
  rw [frzL_vec]; exact vec_ext h
theorem catL {o o' : Bool} {xs ys : List D} {P : D → Prop} (h1 : isFL xs = true) (h2 : isFL ys = true) (hl : xs.length + ys.length ≤ 1000000) : SO (gAdd (.n .lst o xs) (.n .lst o' ys)) P = P (.lst true (xs ++ ys)) := by
  unfold gAdd gOr gAddI gII gCatL
  simp [hl, h1, h2]
theorem catT {o o' : Bool} {xs ys : List D} {P : D → Prop} (h1 : isFL xs = true) (h2 : isFL ys = true) (hl : xs.length + ys.length ≤ 1000000) : SO (gAdd (.n .tup o xs) (.n .tup o' ys)) P = P (.tup (xs ++ ys)) := by
  unfold gAdd gOr gAddI gII gCatL gCatT
  simp [hl, h1, h2]
theorem lkMM : List.lookup ("Malformed" : Str) ([("Malformed", true), ("Refused", false)] : List (Str × Bool)) = some true := by decide +kernel
end DC
namespace DL
open PySem L2
@[simp] theorem p_Ext {Q : Ps} {ρ : DL.Env} {i : Nat} {o : Bool} {ys : List D} : WP Q (stExt i (.n .lst o ys) ρ) = SO (ρ[i]?) (fun o => SO o fun x => asL x fun xs => (xs.length + ys.length ≤ cap ∧ isFL ys = true) ∧ Q.nx (ρ.set i (some (.lst true (xs ++ ys))))) := by
  unfold stExt
  split
  · rename_i xs h
    rw [h]
    dsimp only [so_some, asL_lst]
    split
    · rename_i h; simp [h]
    · rename_i h; simp only [h, false_and]; rfl
  · rename_i h
    cases e : ρ[i]? with
    | none => rfl
    | some o =>
      cases o with
      | none => rfl
      | some d =>
        dsimp only [so_some]
        rw [asL_cases fun xs z => h xs (by rw [e, z])]
        rfl
end DL
namespace DC
open PySem L2 DL
def stt (s : Nat → Nat) : Nat → Nat
  | 0 => 0
  | x + 1 => stt s x + s x
open Classical in
noncomputable def lexT (m : Nat) (s : Nat → Nat) (A : Tb) (B : Nat → Tb) : Tb := fun p q => decide (∃ x i y k, x < m ∧ i < s x ∧ y < m ∧ k < s y ∧ p = stt s x + i ∧ q = stt s y + k ∧ (A x y = true ∨ (x = y ∧ B x i k = true)))
def blk (s : Nat → Nat) (p : Nat × Nat) : List (Nat × Nat) := (List.range (s p.1)).flatMap fun i => (List.range (s p.2)).map fun k => (stt s p.1 + i, stt s p.2 + k)
end DC
namespace DL
open PySem L2
theorem wo_val {α : Type} {E : Exn → DL.Env → Prop} {P : α → DL.Env → Prop} {f : DL.Env → Out α} {ρ : DL.Env} (x : α) (h1 : WO NoE (fun y ρ' => y = x ∧ ρ' = ρ) (f ρ)) (h2 : P x ρ) : WO E P (f ρ) := by
  rw [out_eq h1]
  exact h2
end DL
namespace DC
open PySem L2 DL
def rowD (ps : List (Nat × Nat)) : D := .n .lst false (ps.map DC.prD)
@[simp] theorem isF_rowD {ps : List (Nat × Nat)} : isF (rowD ps) = true := by unfold rowD; simp
@[simp] theorem frz_rowD {ps : List (Nat × Nat)} : frz (rowD ps) = rowD ps := frz_isF _ isF_rowD
def tabD (n : Nat) (T : Tb) : D := .n .lst false (vec n (brow false n T))
@[simp] theorem isF_tabD {n : Nat} {T : Tb} : isF (tabD n T) = true := by unfold tabD; simp [isFL_brow]
@[simp] theorem frz_tabD {n : Nat} {T : Tb} : frz (tabD n T) = tabD n T := frz_isF _ isF_tabD
@[simp] theorem isF_brow' {n a : Nat} {T : Tb} : isF (brow false n T a) = true := by
  unfold brow; rw [isF_n, isFL_vec fun _ _ => rfl]; rfl
end DC
namespace DC
open PySem L2 DL
end DC
namespace DL
open PySem L2
end DL
namespace DC
open PySem L2 DL
end DC
namespace DC
open PySem L2 DL
def up1 (c : Nat) : List Nat := (List.range c).map (· + 1)
def dv (k : Nat) : List Nat := (up1 k).filter fun d => decide (k % d = 0)
def dg (k i : Nat) : Nat := (dv k).getD i 0
end DC
namespace DC
open PySem L2 DL
theorem o_min2 {i j : Int} {P : D → Prop} : SO (gMin2 (.a (.int i)) (.a (.int j))) P = P (.a (.int (if j < i then j else i))) := rfl
theorem pow18 : gPow (.a (.int 10)) (.a (.int 18)) = some (.a (.int 1000000000000000000)) := by kernel_rfl
theorem scr_ix {ns : List Int} {k : Nat} {z : Int} {P : D → Prop} (h : ns[k]? = some z) : SO (gIx (.n .scr false (ns.map D.int)) (.a (.int (k : Int)))) P = P (.a (.int z)) := by
  unfold gIx gIxO
  dsimp only
  rw [atI_nat (x := D.int z) (by rw [List.getElem?_map, h]; rfl)]
  rfl
theorem len_scr {o : Bool} {xs : List D} {P : D → Prop} : SO (gLen (.n .scr o xs)) P = P (.a (.int xs.length)) := rfl
theorem numbers_wf (ns : List Int) (hl : ns.length ≤ 63) (hb : ∀ z ∈ ns, Builtin.Int.intBits z ≤ 1048576) : WF NoE (fun d io => Nms d ∧ io = none) (F_law_numbers [.scr (ns.map D.int)]) := by
  unfold F_law_numbers
  rw [wf_fn]
  unfold B_law_numbers
  have hf : isFL (ns.map D.int) = true := isFL_map fun _ => rfl
  have hS : D.scr (ns.map D.int) = .n .scr false (ns.map D.int) := rfl
  have hix := fun {k z} h P => @scr_ix ns k z P h
  rw [hS]
  generalize hd0 : D.n .scr false (ns.map D.int) = d0 at *
  have hf0 : isF d0 = true := by rw [← hd0]; simp [hf]
  have hlen : ∀ P : D → Prop, SO (gLen d0) P = P (.a (.int (ns.length : Nat))) := fun P => by rw [← hd0, len_scr]; simp
  refine wp_step fun K hK => ?_
  simp
  apply hK
  clear hK K
  have c63 : ¬ (63 : Int) < ns.length := by omega
  refine wp_cutK (fun ρ => ∃ (l : List Nat) (v2 v3 v4 v5 v6 : Option D), ρ = [some d0, some (.lst true (l.map natD)), v2, v3, v4, v5, v6] ∧ (∀ x ∈ l, x < 1009) ∧ l.length ≤ 10000) (fun K hK => ?_) ?_
  · simp [hf0, hlen, o_min2, c63]
    refine ⟨by omega, ?_⟩
    refine wp_forK (fun i ρ => ∃ (l : List Nat) (v2 v3 v4 v5 v6 : Option D), ρ = [some d0, some (.lst true (l.map natD)), v2, v3, v4, v5, v6] ∧ (∀ x ∈ l, x < 1009) ∧ l.length ≤ 60 * i) ⟨[], none, none, none, none, none, rfl, fun x hx => by simp at hx, by simp⟩ ?_ ?_
    · intro i d ρ hd h J hJ
      obtain ⟨l, v2, v3, v4, v5, v6, hρ, hx, hll⟩ := h
      subst hρ
      obtain ⟨rfl, hi⟩ := intL_get hd
      rw [show (0 : Int) + (i : Int) = i by omega]
      obtain ⟨z, hz⟩ : ∃ z, ns[i]? = some z := ⟨_, List.getElem?_eq_getElem hi⟩
      have bz := hb z (List.mem_of_getElem? hz)
      rw [s_tg1]
      refine ⟨by simp, ?_⟩
      refine wp_step fun K hK => ?_
      simp [hf0, hix hz]
      apply hK
      clear hK K
      have babs : 0 ≤ (if z < 0 then -z else z) := by split <;> omega
      generalize (if z < 0 then -z else z) = c at *
      simp [pow18]
      split
      · rename_i hc
        refine wp_forK (fun j ρ => ∃ (l : List Nat) (c : Int) (v4 : Option D), ρ = [some d0, some (.lst true (l.map natD)), some (.a (.int (i : Int))), some (.a (.int c)), v4, v5, v6] ∧ 0 ≤ c ∧ (∀ x ∈ l, x < 1009) ∧ l.length ≤ 60 * i + j) ⟨l, c, v4, rfl, babs, hx, by omega⟩ ?_ ?_
        · intro j d ρ hd h J2 hJ2
          obtain ⟨l, c, v4, hρ, h0, hx, hll⟩ := h
          subst hρ
          have hj : j < 60 := by
            have := (List.getElem?_eq_some_iff.mp hd).1
            rwa [intL_len] at this
          simp
          split
          · rename_i hc
            have hm0 := Int.emod_nonneg c (show (1009 : Int) ≠ 0 by decide)
            have hm1 := Int.emod_lt_of_pos c (show (0 : Int) < 1009 by decide)
            obtain ⟨w, hw⟩ := Int.eq_ofNat_of_zero_le hm0
            rw [hw]
            refine ⟨by omega, divOk_small (by decide) (by decide), ?_⟩
            refine hJ2 _ ⟨l ++ [w], c / 1009, some d, by simp [natD], Int.ediv_nonneg h0 (by decide), ?_, by simp; omega⟩
            intro x hx'
            rcases List.mem_append.mp hx' with q | q
            · exact hx x q
            · simp at q; subst q; omega
          · exact hJ2 _ ⟨l, c, some d, rfl, h0, hx, by omega⟩
        · intro ρ h
          obtain ⟨l, c, v4, hρ, h0, hx, hll⟩ := h
          subst hρ
          rw [intL_len] at hll
          exact hJ _ ⟨l, _, _, _, _, _, rfl, hx, by omega⟩
      · rename_i hc
        refine wp_forK (fun j ρ => ∃ (l : List Nat) (c : Int) (v5 v6 : Option D), ρ = [some d0, some (.lst true (l.map natD)), some (.a (.int (i : Int))), some (.a (.int c)), v4, v5, v6] ∧ 0 ≤ c ∧ c < 1000000000000000000 ∧ (∀ x ∈ l, x < 1009) ∧ l.length ≤ 60 * i + j) ⟨l, c, v5, v6, rfl, babs, by omega, hx, by omega⟩ ?_ ?_
        · intro j d ρ hd h J2 hJ2
          obtain ⟨l, c, v5, v6, hρ, h0, h1, hx, hll⟩ := h
          subst hρ
          obtain ⟨rfl, hj⟩ := intL_get hd
          rw [show (0 : Int) + (j : Int) = j by omega]
          have k1 : mulOk c 48271 = true := mulOk_of (bits_c (n := 60) (by omega)) (bits_c (n := 16) (by decide)) (by decide)
          have k2 : mulOk 69621 ((j : Int) + i) = true := mulOk_of (bits_c (n := 17) (by decide)) (bits_c (n := 10) (by omega)) (by decide)
          have m0 := Int.emod_nonneg (c * 48271 + 69621 * ((j : Int) + i) + 11) (show (2147483647 : Int) ≠ 0 by decide)
          have m1 := Int.emod_lt_of_pos (c * 48271 + 69621 * ((j : Int) + i) + 11) (show (0 : Int) < 2147483647 by decide)
          generalize hcc : (c * 48271 + 69621 * ((j : Int) + i) + 11) % 2147483647 = c2 at *
          have k3 : mulOk c2 16807 = true := mulOk_of (bits31 m0 m1) (bits_c (n := 15) (by decide)) (by decide)
          simp [k1, k2, hcc, k3]
          have hm0 := Int.emod_nonneg ((c2 * 16807 + c2 / 65536) % 2147483629) (show (1009 : Int) ≠ 0 by decide)
          have hm1 := Int.emod_lt_of_pos ((c2 * 16807 + c2 / 65536) % 2147483629) (show (0 : Int) < 1009 by decide)
          generalize hcm : (c2 * 16807 + c2 / 65536) % 2147483629 = cm at *
          obtain ⟨w, hw⟩ := Int.eq_ofNat_of_zero_le hm0
          rw [hw]
          refine ⟨divOk_small (by decide) (by decide), by omega, ?_⟩
          refine hJ2 _ ⟨l ++ [w], c2, some (.a (.int (j : Int))), some (.a (.int cm)), by simp [natD], m0, by omega, ?_, by simp; omega⟩
          intro x hx'
          rcases List.mem_append.mp hx' with q | q
          · exact hx x q
          · simp at q; subst q; omega
        · intro ρ h
          obtain ⟨l, c, v5, v6, hρ, h0, h1, hx, hll⟩ := h
          subst hρ
          rw [intL_len] at hll
          exact hJ _ ⟨l, _, _, _, _, _, rfl, hx, by omega⟩
    · intro ρ h
      obtain ⟨l, v2, v3, v4, v5, v6, hρ, hx, hll⟩ := h
      subst hρ
      rw [intL_len] at hll
      exact hK _ ⟨l, _, _, _, _, _, rfl, hx, by omega⟩
  · intro ρ h
    obtain ⟨l, v2, v3, v4, v5, v6, hρ, hx, hll⟩ := h
    subst hρ
    simp [ioOf]
    exact ⟨l, rfl, hx, hll⟩
theorem order_wf {st : D} (h : Nms st) (most : Nat) (hm : most ≤ 10) : WF NoE (fun d io => ∃ (n : Nat) (ps : List (Nat × Nat)), d = bldO n (clo n ps) ∧ n ≤ most ∧ Acyc n ps ∧ ∃ st', io = some st' ∧ Nms st') (F_law_order [st, .int most]) := by
  unfold F_law_order
  rw [wf_fn]
  unfold B_law_order
  refine wp_cutK (fun ρ => ∃ (st : D) (n : Nat), ρ = [some st, some (.a (.int (most : Int))), some (.a (.int (n : Int))), none, none, none, none, none, none, none, none] ∧ Nms st ∧ n ≤ most) (fun K hK => ?_) ?_
  · simp
    refine (next_wf h ((most : Int) + 1) (by omega)).mono ?_
    rintro d io ⟨v, rfl, v0, v1, st1, rfl, h1⟩
    obtain ⟨n, rfl⟩ := Int.eq_ofNat_of_zero_le v0
    simp
    exact hK _ ⟨st1, n, rfl, h1, by omega⟩
  · clear h st
    rintro ρ ⟨st, n, rfl, h, hn⟩
    refine wp_step fun K hK => ?_
    simp
    apply hK
    clear hK K
    refine wp_cutK (fun ρ => ρ = [some st, some (.a (.int (most : Int))), some (.a (.int (n : Int))), some (.n .lst true []), some (.n .lst true ((List.range n).map natD)), none, none, none, none, none, none]) (fun K hK => ?_) ?_
    · simp [intL_nat]
      refine ⟨by omega, ?_⟩
      rw [lcL_run (fun _ => true) (fun d => d)]
      · rw [wo_ok, List.filter_eq_self.mpr (fun _ _ => rfl), List.map_id']
        simp
        exact hK _ rfl
      · intro d hd
        obtain ⟨x, hx, rfl⟩ := List.mem_map.mp hd
        simp
    · rintro ρ rfl
      refine wp_cutK (fun ρ => ∃ (st : D) (xs : List Nat) (v5 : Option D), ρ = [some st, some (.a (.int (most : Int))), some (.a (.int (n : Int))), some (.n .lst false (xs.map natD)), some (.n .lst false []), v5, none, none, none, none, none] ∧ Nms st ∧ xs.Perm (List.range n)) (fun K hK => ?_) ?_
      · simp
        refine ⟨by omega, ?_⟩
        refine wp_forK (fun i ρ => ∃ (st : D) (le ou : List Nat) (v : Option D), ρ = [some st, some (.a (.int (most : Int))), some (.a (.int (n : Int))), some (.lst true (ou.map natD)), some (.lst true (le.map natD)), v, none, none, none, none, none] ∧ Nms st ∧ (le ++ ou).Perm (List.range n) ∧ ou.length = i) ⟨st, List.range n, [], none, rfl, h, by simp, rfl⟩ ?_ ?_
        · intro i d ρ hd h J hJ
          obtain ⟨st, le, ou, v, hρ, h1, h2, h3⟩ := h
          subst hρ
          have hi : i < n := by
            have := (List.getElem?_eq_some_iff.mp hd).1
            rw [intL_len] at this
            omega
          have hlen := h2.length_eq
          simp at hlen
          simp
          refine (next_wf h1 (le.length : Int) (by omega)).mono ?_
          rintro d io ⟨v, rfl, v0, v1, st', rfl, h4⟩
          have hj : v.toNat < le.length := by omega
          simp [seqIx_nat v0 v1, List.getElem?_eq_getElem hj]
          refine ⟨by omega, by omega, ?_⟩
          refine hJ _ ⟨st', le.eraseIdx v.toNat, ou ++ [le[v.toNat]], some d, ?_, h4, ?_, by simp [h3]⟩
          · simp [map_erase]
          · have p1 := perm_erase le v.toNat hj
            refine List.Perm.trans ?_ h2
            refine List.Perm.trans ?_ (p1.append_right ou)
            rw [← List.append_assoc]
            exact (List.perm_append_singleton _ _).trans (by simp)
        · intro ρ h
          obtain ⟨st, le, ou, v, hρ, h1, h2, h3⟩ := h
          subst hρ
          rw [intL_len] at h3
          have hlen := h2.length_eq
          simp at hlen
          have e : le = [] := List.eq_nil_of_length_eq_zero (by omega)
          subst e
          simp
          exact hK _ ⟨st, ou, v, rfl, h1, by simpa using h2⟩
      · rintro ρ ⟨st, xs, v5, rfl, h, hp⟩
        have nd : xs.Nodup := hp.symm.nodup_iff.mp List.nodup_range
        have hlx : xs.length = n := by simpa using hp.length_eq
        have hlt : ∀ x ∈ xs, x < n := fun x hx => by simpa using hp.mem_iff.mp hx
        refine wp_cutK (fun ρ => ∃ (st : D) (th : Int), 0 < th ∧ ρ = [some st, some (.a (.int (most : Int))), some (.a (.int (n : Int))), some (.n .lst false (xs.map natD)), some (.n .lst false []), v5, some (.a (.int th)), none, none, none, none] ∧ Nms st) (fun K hK => ?_) ?_
        · simp
          refine (next_wf h 3 (by decide)).mono ?_
          rintro d io ⟨v, rfl, v0, v1, st', rfl, h4⟩
          simp
          exact hK _ ⟨st', 2 + v, by omega, rfl, h4⟩
        · clear h st
          rintro ρ ⟨st, th, hth, rfl, h⟩
          refine wp_step fun K hK => ?_
          simp
          apply hK
          clear hK K
          refine wp_cutK (fun ρ => ∃ (st : D) (ps : List (Nat × Nat)) (v8 v9 : Option D), ρ = [some st, some (.a (.int (most : Int))), some (.a (.int (n : Int))), some (.n .lst false (xs.map natD)), some (.n .lst false []), v5, some (.a (.int th)), some (.n .lst false (ps.map prD)), v8, v9, none] ∧ Nms st ∧ Acyc n ps ∧ ps.length ≤ 10000) (fun K hK => ?_) ?_
          · simp
            refine ⟨by omega, ?_⟩
            refine wp_forK (fun i ρ => ∃ (st : D) (ps : List (Nat × Nat)) (v8 v9 : Option D), ρ = [some st, some (.a (.int (most : Int))), some (.a (.int (n : Int))), some (.n .lst false (xs.map natD)), some (.n .lst false []), v5, some (.a (.int th)), some (.lst true (ps.map prD)), v8, v9, none] ∧ Nms st ∧ PsOk n (fun v => xs.idxOf v) ps ∧ ps.length ≤ 100 * i) ⟨st, [], none, none, rfl, h, fun p hp => (nomatch hp), by simp⟩ ?_ ?_
            · intro i d ρ hd h J hJ
              obtain ⟨st, ps, v8, v9, hρ, h3, h4, h5⟩ := h
              subst hρ
              obtain ⟨rfl, hi⟩ := intL_get hd
              rw [show (0 : Int) + (i : Int) = i by omega]
              simp
              refine ⟨by omega, ?_⟩
              refine wp_forK (fun j ρ => ∃ (st : D) (ps : List (Nat × Nat)) (v9 : Option D), ρ = [some st, some (.a (.int (most : Int))), some (.a (.int (n : Int))), some (.n .lst false (xs.map natD)), some (.n .lst false []), v5, some (.a (.int th)), some (.lst true (ps.map prD)), some (.a (.int (i : Int))), v9, none] ∧ Nms st ∧ PsOk n (fun v => xs.idxOf v) ps ∧ ps.length ≤ 100 * i + j) ⟨st, ps, v9, rfl, h3, h4, by omega⟩ ?_ ?_
              · intro j d ρ hd h J2 hJ2
                obtain ⟨st, ps, v9, hρ, h3, h4, h5⟩ := h
                subst hρ
                obtain ⟨rfl, hj⟩ := intL_get hd
                rw [show (0 : Int) + (j : Int) = j by omega]
                have hi2 : i < xs.length := by omega
                have hj2 : j < xs.length := by omega
                have ixl : ∀ (x : Nat) (hx : x < xs.length) (P : D → Prop), SO (gIx (.n .lst false (xs.map natD)) (.a (.int (x : Int)))) P = P (natD xs[x]) := fun x hx P => by
                  unfold gIx
                  rw [ixL (d := natD xs[x]) (by rw [List.getElem?_map, List.getElem?_eq_getElem hx]; rfl)]
                  rfl
                simp
                refine (next_wf h3 th hth).mono ?_
                rintro d io ⟨v, rfl, v0, v1, st', rfl, h6⟩
                simp
                split
                · simp [ixl i hi2, ixl j hj2]
                  refine ⟨by omega, ?_⟩
                  refine hJ2 _ ⟨st', ps ++ [(xs[j], xs[i])], some (.a (.int (j : Int))), by simp [prD], h6, ?_, by simp; omega⟩
                  intro p hp
                  rcases List.mem_append.mp hp with hp | hp
                  · exact h4 p hp
                  · simp at hp
                    subst hp
                    refine ⟨hlt _ (List.getElem_mem _), hlt _ (List.getElem_mem _), ?_⟩
                    show List.idxOf xs[j] xs < List.idxOf xs[i] xs
                    rw [idxOf_get nd i hi2, idxOf_get nd j hj2]
                    omega
                · exact hJ2 _ ⟨st', ps, some (.a (.int (j : Int))), rfl, h6, h4, by omega⟩
              · intro ρ h
                obtain ⟨st, ps, v9, hρ, h3, h4, h5⟩ := h
                subst hρ
                rw [intL_len] at h5
                exact hJ _ ⟨st, ps, _, _, rfl, h3, h4, by omega⟩
            · intro ρ h
              obtain ⟨st, ps, v8, v9, hρ, h3, h4, h5⟩ := h
              subst hρ
              rw [intL_len] at h5
              simp
              exact hK _ ⟨st, ps, _, _, rfl, h3, ⟨_, h4⟩, by omega⟩
          · rintro ρ ⟨st, ps, v8, v9, rfl, h3, hac, hlen⟩
            have hmk := mk_of (k := .lst) (T := clo n ps) (.inl rfl) hac.bd (fun a b _ _ => rfl) (acyc_irr hac) (show n ≤ 10 by omega) (by omega)
            simp [ioOf, hmk]
            exact ⟨n, ps, ⟨rfl, rfl⟩, hn, hac, h3⟩
end DC
namespace DC
open PySem L2 DL
def tupN (l : List Nat) : D := .n .tup false (l.map natD)
@[simp] theorem isF_tupN {l : List Nat} : isF (tupN l) = true := by unfold tupN; simp
@[simp] theorem frz_tupN {l : List Nat} : frz (tupN l) = tupN l := frz_isF _ isF_tupN
def ascN (n : Nat) : Nat → List Nat → Bool
  | _, [] => true
  | lo, x :: l => decide (lo ≤ x) && (decide (x < n) && ascN n (x + 1) l)
theorem ascN_lt {n : Nat} : ∀ {l : List Nat} {lo : Nat}, ascN n lo l = true → ∀ x ∈ l, x < n
  | [], _, _, x, hx => by simp at hx
  | y :: l, lo, h, x, hx => by
    unfold ascN at h
    rw [Bool.and_eq_true, Bool.and_eq_true] at h
    rcases List.mem_cons.mp hx with rfl | hx
    · exact of_decide_eq_true h.2.1
    · exact ascN_lt h.2.2 x hx
theorem setm_bit {l : List Nat} {y : Nat} : (setm l).testBit y = decide (y ∈ l) := by
  have key : ∀ (l : List Nat) (m : Nat), (l.foldl (fun m z => m ||| 2 ^ z) m).testBit y = (m.testBit y || decide (y ∈ l)) := by
    intro l
    induction l with
    | nil => intro m; simp
    | cons x l ih =>
      intro m
      rw [List.foldl_cons, ih, Nat.testBit_or, Nat.testBit_two_pow]
      by_cases e : x = y
      · subst e; simp
      · have e2 : ¬ y = x := fun q => e q.symm
        simp [e, e2]
  unfold setm
  rw [key]
  simp
theorem setm_lt {n : Nat} {l : List Nat} (h : ∀ x ∈ l, x < n) : setm l < 2 ^ n := by
  apply Nat.lt_pow_two_of_testBit
  intro i hi
  rw [setm_bit]
  apply decide_eq_false
  intro q
  have := h i q
  omega
def fits (T : Tb) (r : Bool) (l : List Nat) : Bool := l.all fun x => l.all fun y => decide (x = y) || ((T x y || T y x) == r)
end DC
namespace DC
open PySem L2 DL
def parD (Ps : List (List Nat)) : D := .n .tup false (Ps.map tupN)
@[simp] theorem isF_parD {Ps : List (List Nat)} : isF (parD Ps) = true := by
  unfold parD
  rw [isF_n, isFL_map fun _ => isF_tupN]
  rfl
@[simp] theorem frz_parD {Ps : List (List Nat)} : frz (parD Ps) = parD Ps := frz_isF _ isF_parD
def natsOf : D → List Nat
  | .n _ _ xs => xs.map natOf
  | _ => []
@[simp] theorem natsOf_tupN {l : List Nat} : natsOf (tupN l) = l := by
  show (l.map natD).map natOf = l
  rw [List.map_map]
  exact List.map_id' l
theorem blsOf_map {α : Type} {f : α → Bool} : ∀ l : List α, blsOf (l.map fun x => D.a (.bl (f x))) = some (l.map f)
  | [] => rfl
  | x :: l => by
    rw [List.map_cons, List.map_cons]
    unfold blsOf
    rw [blsOf_map l]
    rfl
theorem o_allL {α : Type} {o : Bool} {l : List α} {f : α → Bool} {P : D → Prop} : SO (gAll (.n .lst o (l.map fun x => .a (.bl (f x))))) P = P (.a (.bl (l.all f))) := by
  unfold gAll
  dsimp only
  rw [blsOf_map]
  simp [List.all_map]
end DC
namespace DC
open PySem L2 DL
end DC
namespace DC
open PySem L2 DL
end DC
namespace DC
open PySem L2 DL
abbrev Fi : Type := Nat → Nat → Int
def Sup (n : Nat) (T : Tb) (f : Fi) : Prop := ∀ x y, x < n → y < n → f x y ≠ 0 → x = y ∨ T x y = true
end DC
namespace DC
open PySem L2 DL
def oneF : Fi := fun x y => if x = y then 1 else 0
end DC
namespace DC
open PySem L2 DL
theorem src_rng {ρ : DL.Env} {f : DL.Env → Out D} {n : Nat} (h : f ρ = .ok (.a (.int (n : Int))) ρ) (hn : n ≤ 1000) : dRng1 f ρ = .ok (vec n fun i => .a (.int (i : Int))) ρ := by
  apply out_eq
  rw [w_Rng1, h]
  simp [intL_vec]
  omega
theorem var_eq {ρ : DL.Env} {i : Nat} {d : D} (h : ρ[i]? = some (some d)) (hf : isF d = true) : dVar i ρ = .ok d ρ := by
  apply out_eq
  simp [h, hf]
end DC
namespace DC
open PySem L2 DL
structure RowOk (n : Nat) (T : Tb) (x : Nat) (r : Nat → Int) : Prop where
  bd : ∀ y, y < n → (r y).natAbs ≤ 2
  su : ∀ y, y < n → r y ≠ 0 → x = y ∨ T x y = true
  dg : x < n → r x = 1 ∨ r x = -1
theorem sum_succ {g : Nat → Int} {i : Nat} : ((List.range (i + 1)).map g).sum = ((List.range i).map g).sum + g i := by
  rw [List.range_succ, List.map_append, List.sum_append]
  simp
end DC
namespace DC
open PySem L2 DL
theorem anyEq_int {z : Int} : ∀ {l : List Int}, anyEq (.a (.int z)) (l.map D.int) = decide (z ∈ l)
  | [] => by simp [anyEq]
  | y :: l => by
    rw [List.map_cons]
    unfold anyEq
    rw [anyEq_int (l := l)]
    have : eqD (.a (.int y)) (.a (.int z)) = decide (y = z) := by
      show eqA (.int y) (.int z) = _
      simp [eqA]
      rw [Bool.eq_iff_iff]; simp
    rw [this]
    by_cases e : y = z
    · simp [e]
    · have e2 : ¬ z = y := fun h => e h.symm
      simp [e, e2]
theorem pDL_int {m : Nat} : ∀ {l : List Int}, pDL m (l.map D.int) = true
  | [] => rfl
  | y :: l => by
    show (pD m (.a (.int y)) && pDL m (l.map D.int)) = true
    rw [pDL_int (l := l)]
    rfl
theorem gInB_ints {k : Kd} (hk : k = .lst ∨ k = .tup) {z : Int} {o : Bool} {l : List Int} : gInB (.a (.int z)) (.n k o (l.map D.int)) = some (decide (z ∈ l)) := by
  rcases hk with rfl | rfl
  · show (if pD 60 (.a (.int z)) = true ∧ pDL 60 (l.map D.int) = true then some (anyEq (.a (.int z)) (l.map D.int)) else none) = _
    rw [pDL_int, anyEq_int]
    rfl
  · have : (l.map D.int).all isA = true := by simp [List.all_map, isA]
    unfold gInB
    dsimp only
    rw [if_pos ⟨rfl, this⟩, anyEq_int]
theorem o_notinI {k : Kd} (hk : k = .lst ∨ k = .tup) {z : Int} {o : Bool} {l : List Int} {P : D → Prop} : SO (gNotIn (.a (.int z)) (.n k o (l.map D.int))) P = P (.a (.bl (!decide (z ∈ l)))) := by
  unfold gNotIn
  rw [gInB_ints hk]
  rfl
theorem natD_int (l : List Nat) : l.map natD = (l.map fun (n : Nat) => (n : Int)).map D.int := by
  rw [List.map_map]; rfl
theorem mem_nat {z : Nat} {l : List Nat} : ((z : Int) ∈ l.map fun (n : Nat) => (n : Int)) ↔ z ∈ l := by
  rw [List.mem_map]
  constructor
  · rintro ⟨a, ha, e⟩
    have : a = z := by omega
    subst this; exact ha
  · intro h; exact ⟨z, h, rfl⟩
theorem o_notinN {k : Kd} (hk : k = .lst ∨ k = .tup) {z : Nat} {o : Bool} {l : List Nat} {P : D → Prop} : SO (gNotIn (.a (.int (z : Int))) (.n k o (l.map natD))) P = P (.a (.bl (!decide (z ∈ l)))) := by
  rw [natD_int, o_notinI hk]
  rw [decide_eq_decide.mpr mem_nat]
theorem minimal_ex {n : Nat} {T : Tb} (tT : Tr n T) (iT : Irr n T) : ∀ {r : List Nat}, (∀ z ∈ r, z < n) → r ≠ [] → ∃ m ∈ r, ∀ z ∈ r, T z m = false
  | [], _, h => absurd rfl h
  | [a], hb, _ => ⟨a, by simp, fun z hz => by
      have : z = a := by simpa using hz
      subst this; exact iT z (hb z (by simp))⟩
  | a :: b :: r, hb, _ => by
    obtain ⟨m, hm, hmin⟩ := minimal_ex tT iT (r := b :: r) (fun z hz => hb z (by simp [hz])) (by simp)
    cases h : T a m with
    | false =>
      refine ⟨m, by simp [hm], fun z hz => ?_⟩
      rcases List.mem_cons.mp hz with rfl | hz
      · exact h
      · exact hmin z hz
    | true =>
      refine ⟨a, by simp, fun z hz => ?_⟩
      rcases List.mem_cons.mp hz with rfl | hz
      · exact iT z (hb z (by simp))
      · cases h2 : T z a with
        | false => rfl
        | true =>
          have := tT z a m (hb z (by simp [hz])) (hb a (by simp)) (hb m (List.mem_cons_of_mem _ hm)) h2 h
          rw [hmin z hz] at this
          cases this
structure UpL (n : Nat) (T : Tb) (x : Nat) (l : List Nat) : Prop where
  nd : l.Nodup
  hd : l[0]? = some x
  up : ∀ y ∈ l, y = x ∨ (y < n ∧ T x y = true)
  bh : ∀ (i y : Nat), l[i]? = some y → ∀ z, z < n → T z y = true → T x z = true → z ∈ l.take i
theorem frzL_natD {l : List Nat} : frzL (l.map natD) = l.map natD := frzL_map fun _ => rfl
end DC
namespace DC
open PySem L2 DL
def Sm (n : Nat) (f : Nat → Int) : Int := ((List.range n).map f).sum
theorem Sm_zero {f : Nat → Int} : Sm 0 f = 0 := rfl
theorem Sm_succ {n : Nat} {f : Nat → Int} : Sm (n + 1) f = Sm n f + f n := sum_succ
theorem Sm_congr {n : Nat} {f g : Nat → Int} (h : ∀ i, i < n → f i = g i) : Sm n f = Sm n g := by
  unfold Sm
  congr 1
  exact List.map_congr_left fun i hi => h i (List.mem_range.mp hi)
theorem Sm_add {f g : Nat → Int} : ∀ {n : Nat}, Sm n (fun i => f i + g i) = Sm n f + Sm n g
  | 0 => rfl
  | n + 1 => by rw [Sm_succ, Sm_succ, Sm_succ, Sm_add]; omega
theorem Sm_mulL {a : Int} {f : Nat → Int} : ∀ {n : Nat}, Sm n (fun i => a * f i) = a * Sm n f
  | 0 => by simp [Sm_zero]
  | n + 1 => by rw [Sm_succ, Sm_succ, Sm_mulL, Int.mul_add]
theorem Sm_zeros {n : Nat} {f : Nat → Int} (h : ∀ i, i < n → f i = 0) : Sm n f = 0 := by
  rw [Sm_congr (g := fun _ => 0) h]
  induction n with
  | zero => rfl
  | succ n ih => rw [Sm_succ, ih fun i hi => h i (by omega)]; rfl
theorem Sm_pick {n c : Nat} {f : Nat → Int} (hc : c < n) (h : ∀ i, i < n → i ≠ c → f i = 0) : Sm n f = f c := by
  induction n with
  | zero => omega
  | succ n ih =>
    rw [Sm_succ]
    by_cases e : c = n
    · subst e
      rw [Sm_zeros fun i hi => h i (by omega) (by omega)]
      omega
    · rw [ih (by omega) fun i hi => h i (by omega), h n (by omega) (Ne.symm e)]
      omega
theorem Sm_set {n c : Nat} {f g : Nat → Int} (hc : c < n) (h : ∀ i, i < n → i ≠ c → g i = f i) : Sm n g = Sm n f + (g c - f c) := by
  have e : Sm n g = Sm n (fun i => f i + (g i - f i)) := Sm_congr fun i _ => by omega
  rw [e, Sm_add, Sm_pick (f := fun i => g i - f i) hc fun i hi hne => by rw [h i hi hne]; omega]
theorem Sm_abs {f : Nat → Int} : ∀ {n : Nat}, (Sm n f).natAbs ≤ (Sm n fun i => (f i).natAbs).toNat
  | 0 => by simp [Sm_zero]
  | n + 1 => by
    have ih := Sm_abs (f := f) (n := n)
    have hp : ∀ n, 0 ≤ Sm n fun i => ((f i).natAbs : Int) := fun n => by
      induction n with
      | zero => simp [Sm_zero]
      | succ n ih => rw [Sm_succ]; omega
    rw [Sm_succ, Sm_succ]
    have h1 := hp n
    omega
theorem Sm_le {f g : Nat → Int} : ∀ {n : Nat}, (∀ i, i < n → f i ≤ g i) → Sm n f ≤ Sm n g
  | 0, _ => by simp [Sm_zero]
  | n + 1, h => by
    rw [Sm_succ, Sm_succ]
    have := Sm_le (n := n) fun i hi => h i (by omega)
    have := h n (by omega)
    omega
theorem Sm_nonneg {f : Nat → Int} {n : Nat} (h : ∀ i, i < n → 0 ≤ f i) : 0 ≤ Sm n f := by
  have := Sm_le (f := fun _ => 0) h
  rw [Sm_zeros fun _ _ => rfl] at this
  exact this
theorem Sm_one {f : Nat → Int} {n c : Nat} (hc : c < n) (h : ∀ i, i < n → 0 ≤ f i) : f c ≤ Sm n f := by
  have := Sm_le (n := n) (f := fun i => if i = c then f c else 0) (g := f) fun i hi => by
    by_cases e : i = c
    · subst e; simp
    · simp [e]; exact h i hi
  rw [Sm_pick hc (fun i _ hne => by simp [hne])] at this
  simpa using this
theorem filter_lt {p q : Nat → Bool} : ∀ {l : List Nat}, (∀ z ∈ l, p z = true → q z = true) → (∃ z ∈ l, q z = true ∧ p z = false) → (l.filter p).length < (l.filter q).length
  | [], _, ⟨z, hz, _⟩ => by cases hz
  | a :: l, h, ⟨z, hz, h1, h2⟩ => by
    have hsub : ∀ {l : List Nat}, (∀ z ∈ l, p z = true → q z = true) → (l.filter p).length ≤ (l.filter q).length := fun {l} h => by
      induction l with
      | nil => simp
      | cons b l ih =>
        have i1 := ih fun z hz => h z (by simp [hz])
        have i2 := h b (by simp)
        cases hp : p b with
        | true => simp [hp, i2 hp]; exact i1
        | false =>
          cases hq : q b <;> simp [hp, hq] <;> omega
    rcases List.mem_cons.mp hz with rfl | hz
    · have := hsub fun z hz => h z (List.mem_cons_of_mem _ hz)
      simp [h1, h2]
      omega
    · have ih := filter_lt (fun z hz => h z (List.mem_cons_of_mem _ hz)) ⟨z, hz, h1, h2⟩
      have i2 := h a (by simp)
      cases hp : p a with
      | true => simp [hp, i2 hp]; exact ih
      | false =>
        cases hq : q a <;> simp [hp, hq] <;> omega
end DC
namespace DC
open PySem L2 DL
theorem intsOf_map {α : Type} {f : α → Int} : ∀ l : List α, intsOf (l.map fun x => D.a (.int (f x))) = some (l.map f)
  | [] => rfl
  | x :: l => by
    rw [List.map_cons, List.map_cons]
    unfold intsOf
    rw [intsOf_map l]
    rfl
theorem o_sumL {α : Type} {o : Bool} {l : List α} {f : α → Int} {P : D → Prop} : SO (gSum (.n .lst o (l.map fun x => .a (.int (f x))))) P = P (.a (.int (l.map f).sum)) := by
  unfold gSum
  dsimp only
  rw [intsOf_map]
  rfl
def bnd3 (i : Nat) : Int := if i = 0 then 0 else ((3 ^ (i - 1) : Nat) : Int)
structure RowP (n : Nat) (T : Tb) (f : Fi) (x : Nat) (l : List Nat) (r : Nat → Int) : Prop where
  su : ∀ y, y < n → r y ≠ 0 → y ∈ l
  dg : l ≠ [] → r x = f x x
  eq : ∀ y ∈ l, Sm n (fun z => r z * f z y) = oneF x y
  bd : Sm n (fun z => ((r z).natAbs : Int)) ≤ bnd3 l.length
structure RowD (n : Nat) (T : Tb) (f : Fi) (x : Nat) (r : Nat → Int) : Prop where
  su : ∀ y, y < n → r y ≠ 0 → x = y ∨ T x y = true
  dg : r x = f x x
  eq : ∀ y, y < n → Sm n (fun z => r z * f z y) = oneF x y
  bd : ∀ y, y < n → (r y).natAbs < 1000000
theorem RowP.done {n x : Nat} {T : Tb} {f : Fi} {l : List Nat} {r : Nat → Int} (hn : n ≤ 10) (tT : Tr n T) (hx : x < n) (hs : Sup n T f) (hl : UpL n T x l) (hall : ∀ y, y < n → T x y = true → y ∈ l) (h : RowP n T f x l r) : RowD n T f x r where
  su := fun y hy h0 => (hl.up y (h.su y hy h0)).imp Eq.symm fun q => q.2
  dg := h.dg fun e => by have := hl.hd; rw [e] at this; cases this
  eq := fun y hy => by
    by_cases q : y ∈ l
    · exact h.eq y q
    · have hxl : x ∈ l := List.mem_of_getElem? hl.hd
      have hne : x ≠ y := fun e => q (e ▸ hxl)
      rw [Sm_zeros fun z hz => ?_]
      · simp [oneF, hne]
      · by_cases h1 : r z = 0
        · rw [h1]; simp
        · by_cases h2 : f z y = 0
          · rw [h2]; simp
          · exfalso
            apply q
            have hz1 := hl.up z (h.su z hz h1)
            have hz2 := hs z y hz hy h2
            rcases hz1 with e1 | e1
            · subst e1
              rcases hz2 with e2 | e2
              · exact absurd e2 hne
              · exact hall y hy e2
            · rcases hz2 with e2 | e2
              · subst e2; exact hall z hy e1.2
              · exact hall y hy (tT x z y hx hz hy e1.2 e2)
  bd := fun y hy => by
    have h1 := Sm_one (f := fun z => ((r z).natAbs : Int)) hy fun i _ => by omega
    have h2 := h.bd
    have hll : l.length ≤ n := by
      have hsub : ∀ w ∈ l, w ∈ List.range n := fun w hw => List.mem_range.mpr (by
        rcases hl.up w hw with e | e <;> omega)
      have := hl.nd.length_le_of_subset hsub
      simpa using this
    have h3 : bnd3 l.length ≤ 19683 := by
      unfold bnd3
      split
      · omega
      · have : 3 ^ (l.length - 1) ≤ 3 ^ 9 := Nat.pow_le_pow_right (by decide) (by omega)
        have e9 : (3 : Nat) ^ 9 = 19683 := by decide
        omega
    omega
theorem RowP.first {n x : Nat} {T : Tb} {f : Fi} {r r' : Nat → Int} (hx : x < n) (hd : f x x = 1 ∨ f x x = -1) (h : RowP n T f x [] r) (h1 : r' x = f x x) (h2 : ∀ z, z ≠ x → r' z = r z) : RowP n T f x [x] r' := by
  have r0 : ∀ z, z < n → z ≠ x → r' z = 0 := fun z hz hne => by
    rw [h2 z hne]
    false_or_by_contra
    rename_i q
    exact absurd (h.su z hz q) (by simp)
  refine ⟨fun y hy h0 => ?_, fun _ => h1, fun y hy => ?_, ?_⟩
  · by_cases e : y = x
    · simp [e]
    · exact absurd (r0 y hy e) h0
  · have : y = x := by simpa using hy
    subst this
    rw [Sm_pick hx fun z hz hne => by rw [r0 z hz hne]; simp, h1]
    simp [oneF]
    rcases hd with e | e <;> rw [e] <;> rfl
  · rw [Sm_pick hx fun z hz hne => by rw [r0 z hz hne]; simp, h1]
    rcases hd with e | e <;> rw [e] <;> simp [bnd3]
theorem RowP.next {n x y i : Nat} {T : Tb} {f : Fi} {l : List Nat} {r r' : Nat → Int} (tT : Tr n T) (hs : Sup n T f) (af : ∀ x y, x < n → y < n → (f x y).natAbs ≤ 2) (hx : x < n) (hl : UpL n T x l) (hi : l[i]? = some y) (hi0 : 0 < i) (hd : f y y = 1 ∨ f y y = -1) (h : RowP n T f x (l.take i) r)
    (h1 : r' y = -(Sm n fun z => if (!decide (z = y)) = true then r z * f z y else 0) * f y y) (h2 : ∀ z, z ≠ y → r' z = r z) : RowP n T f x (l.take (i + 1)) r' := by
  have hil := (List.getElem?_eq_some_iff.mp hi).1
  have ht : l.take (i + 1) = l.take i ++ [y] := by rw [List.take_succ, hi]; rfl
  have hnd : (l.take (i + 1)).Nodup := (List.take_sublist _ _).nodup hl.nd
  rw [ht, List.nodup_append] at hnd
  have hyt : y ∉ l.take i := fun q => hnd.2.2 y q y (by simp) rfl
  have hxt : x ∈ l.take i := by
    have h0 := hl.hd
    have : (l.take i)[0]? = some x := by rw [List.getElem?_take_of_lt hi0]; exact h0
    exact List.mem_of_getElem? this
  have hne : x ≠ y := fun e => hyt (e ▸ hxt)
  have hyn : y < n ∧ T x y = true := by
    rcases hl.up y (List.mem_of_getElem? hi) with e | e
    · exact absurd e.symm hne
    · exact e
  have ry : r y = 0 := by
    false_or_by_contra
    rename_i q
    exact hyt (h.su y hyn.1 q)
  have tot : (Sm n fun z => if (!decide (z = y)) = true then r z * f z y else 0) = Sm n fun z => r z * f z y := Sm_congr fun z _ => by
    by_cases e : z = y
    · subst e; simp [ry]
    · simp [e]
  rw [tot] at h1
  refine ⟨fun w hw h0 => ?_, fun _ => ?_, fun w hw => ?_, ?_⟩
  · rw [ht]
    by_cases e : w = y
    · simp [e]
    · rw [h2 w e] at h0
      simp [h.su w hw h0]
  · rw [h2 x hne]
    exact h.dg fun e => by rw [e] at hxt; cases hxt
  · rw [ht] at hw
    rw [Sm_set (f := fun z => r z * f z w) (c := y) hyn.1 fun z _ hz => by rw [h2 z hz]]
    rcases List.mem_append.mp hw with q | q
    · rw [h.eq w q]
      have f0 : f y w = 0 := by
        false_or_by_contra
        rename_i q0
        obtain ⟨j, hj⟩ := List.mem_iff_getElem?.mp q
        have hji : j < i := by
          have := (List.getElem?_eq_some_iff.mp hj).1
          simp at this
          omega
        rw [List.getElem?_take_of_lt hji] at hj
        have hwn : w < n := by
          rcases hl.up w (List.mem_of_getElem? hj) with e | e
          · subst e; exact hx
          · exact e.1
        rcases hs y w hyn.1 hwn q0 with e | e
        · subst e; exact hyt q
        · have := hl.bh j w hj y hyn.1 e hyn.2
          have : y ∈ l.take i := (List.take_subset_take_left l (Nat.le_of_lt hji)) this
          exact hyt this
      rw [f0]
      simp
    · have : w = y := by simpa using q
      subst this
      rw [h1, ry]
      have e1 : oneF x w = 0 := by simp [oneF, hne]
      rw [e1]
      generalize (Sm n fun z => r z * f z w) = t
      rcases hd with e | e <;> rw [e] <;> omega
  · have hb := h.bd
    rw [Sm_set (f := fun z => ((r z).natAbs : Int)) (c := y) hyn.1 fun z _ hz => by rw [h2 z hz], ry]
    have h3 : ((r' y).natAbs : Int) ≤ 2 * Sm n fun z => ((r z).natAbs : Int) := by
      have h4 : (Sm n fun z => r z * f z y).natAbs ≤ (Sm n fun z => ((r z * f z y).natAbs : Int)).toNat := Sm_abs
      have h5 : (Sm n fun z => ((r z * f z y).natAbs : Int)) ≤ Sm n fun z => 2 * ((r z).natAbs : Int) := Sm_le fun z hz => by
        have := af z y hz hyn.1
        rw [Int.natAbs_mul]
        have := Nat.mul_le_mul_left (r z).natAbs this
        omega
      rw [Sm_mulL] at h5
      have h6 : 0 ≤ Sm n fun z => ((r z * f z y).natAbs : Int) := Sm_nonneg fun _ _ => by omega
      have h7 : (r' y).natAbs = (Sm n fun z => r z * f z y).natAbs := by
        rw [h1]
        rcases hd with e | e <;> rw [e] <;> omega
      omega
    have h8 : bnd3 (l.take (i + 1)).length = 3 * bnd3 (l.take i).length := by
      have e1 : (l.take (i + 1)).length = i + 1 := by simp; omega
      have e2 : (l.take i).length = i := by simp; omega
      rw [e1, e2]
      unfold bnd3
      rw [if_neg (by omega), if_neg (by omega)]
      have : i = (i - 1) + 1 := by omega
      have e3 : 3 ^ (i + 1 - 1) = 3 * 3 ^ (i - 1) := by
        rw [Nat.add_sub_cancel]
        conv => lhs; rw [this, Nat.pow_succ]
        omega
      rw [e3]
      omega
    rw [h8]
    omega
end DC
namespace DC
open PySem L2 DL
def cc (n : Nat) (T : Tb) : Nat → Nat → Nat → Nat → Int
  | 0, _, _, _ => 0
  | m + 1, x, y, k => if x = y then (if k = 1 then 1 else 0) else if k = 0 then 0 else Sm n fun z => if T x z = true ∧ (z = y ∨ T z y = true) then cc n T m z y (k - 1) else 0
end DC
namespace DC
open PySem L2 DL
end DC
namespace DC
open PySem L2 DL
def ky (x : Nat) : Key := .inl (x : Int)
theorem ky_inj {x y : Nat} : ky x = ky y ↔ x = y := by
  unfold ky
  constructor
  · intro h
    have : (x : Int) = y := by injection h
    omega
  · rintro rfl; rfl
def dctN (o : Bool) (dom : List Nat) (f : Nat → D) : D := .n (.dct (dom.map ky)) o (dom.map f)
theorem dctAt_N {f : Nat → D} {x : Nat} : ∀ {dom : List Nat}, dctAt (dom.map ky) (dom.map f) (ky x) = if x ∈ dom then some (f x) else none
  | [] => by simp [dctAt]
  | y :: dom => by
    rw [List.map_cons, List.map_cons]
    unfold dctAt
    rw [dctAt_N (dom := dom)]
    by_cases e : y = x
    · subst e; simp
    · have : ¬ ky y = ky x := fun h => e (ky_inj.mp h)
      have e2 : ¬ x = y := fun h => e h.symm
      simp [this, e2]
theorem hasK_N {x : Nat} : ∀ {dom : List Nat}, hasK (ky x) (dom.map ky) = decide (x ∈ dom)
  | [] => by simp [hasK]
  | y :: dom => by
    rw [List.map_cons]
    unfold hasK
    rw [hasK_N (dom := dom)]
    by_cases e : y = x
    · subst e; simp
    · have : ¬ ky y = ky x := fun h => e (ky_inj.mp h)
      have e2 : ¬ x = y := fun h => e h.symm
      simp [this, e2]
def addN (x : Nat) (dom : List Nat) : List Nat := if x ∈ dom then dom else dom ++ [x]
def updN {α : Type} (x : Nat) (d : α) (f : Nat → α) : Nat → α := fun j => if j = x then d else f j
theorem putKs_N {x : Nat} {dom : List Nat} : putKs (dom.map ky) (ky x) = (addN x dom).map ky := by
  unfold putKs addN
  rw [hasK_N]
  by_cases e : x ∈ dom <;> simp [e]
theorem putR_N {f : Nat → D} {x : Nat} {d : D} : ∀ {dom : List Nat}, putR (dom.map ky) (dom.map f) (ky x) d = dom.map (updN x d f)
  | [] => rfl
  | y :: dom => by
    rw [List.map_cons, List.map_cons]
    unfold putR
    rw [putR_N (dom := dom), List.map_cons]
    congr 1
    unfold updN
    by_cases e : y = x
    · subst e; simp
    · have : ¬ ky y = ky x := fun h => e (ky_inj.mp h)
      simp [e, this]
theorem putXs_N {f : Nat → D} {x : Nat} {d : D} {dom : List Nat} : putXs (dom.map ky) (dom.map f) (ky x) d = (addN x dom).map (updN x d f) := by
  unfold putXs addN
  rw [hasK_N]
  by_cases e : x ∈ dom
  · rw [if_pos (by simp [e]), if_pos e]
    exact putR_N
  · rw [if_neg (by simp [e]), if_neg e, List.map_append]
    congr 1
    · exact List.map_congr_left fun y hy => by
        have hne : ¬ y = x := fun h => e (by rw [← h]; exact hy)
        simp [updN, hne]
    · simp [updN]
theorem asKey_natD {x : Nat} {P : Key → Prop} : asKey (natD x) P = P (ky x) := rfl
theorem asDct_N {o : Bool} {dom : List Nat} {f : Nat → D} {P : List Key → Bool → List D → Prop} : asDct (dctN o dom f) P = P (dom.map ky) o (dom.map f) := rfl
theorem foldl_max : ∀ (l : List Int) (a : Int), a ≤ l.foldl max a ∧ (∀ y ∈ l, y ≤ l.foldl max a) ∧ (l.foldl max a = a ∨ l.foldl max a ∈ l)
  | [], a => ⟨Int.le_refl _, fun y hy => (by cases hy), .inl rfl⟩
  | x :: l, a => by
    rw [List.foldl_cons]
    obtain ⟨h1, h2, h3⟩ := foldl_max l (max a x)
    refine ⟨by omega, fun y hy => ?_, ?_⟩
    · rcases List.mem_cons.mp hy with rfl | hy
      · omega
      · exact h2 y hy
    · rcases h3 with e | e
      · rw [e]
        by_cases q : a ≤ x
        · exact .inr (by rw [Int.max_eq_right q]; simp)
        · exact .inl (Int.max_eq_left (by omega))
      · exact .inr (by simp [e])
theorem max1_eq {o : Bool} {a : Int} {l : List Int} {P : D → Prop} : SO (gMax1 (.n .lst o ((a :: l).map D.int))) P = P (.a (.int (l.foldl max a))) := by
  unfold gMax1
  dsimp only
  rw [intsOf_map (f := fun x : Int => x)]
  dsimp only
  rw [List.map_id', List.max?_cons']
  rfl
theorem w_lcN {E : Exn → DL.Env → Prop} {P : D → DL.Env → Prop} {ρ : DL.Env} {v : Nat} {l : List Nat} {src : DL.Env → Out (List D)} {f : DL.Env → Out D} (fv : Nat → D) (hv : ∀ d, ρ[v]? = some (some d) → isF d = true) (hl : v < ρ.length) (hsrc : src ρ = .ok (l.map natD) ρ) (hc : l.length ≤ 1000000)
    (hf : ∀ x ∈ l, f (ρ.set v (some (natD x))) = .ok (fv x) (ρ.set v (some (natD x)))) (k : P (.lst true (l.map fv)) ρ) : WO E P (dLc [v] src (tg1 v) dYes f ρ) := by
  rw [w_lcA (fun d => fv (natOf d)) hv hl hsrc (by rw [List.length_map]; exact hc)]
  · rw [List.map_map]
    exact k
  · intro d hd
    obtain ⟨x, hx, rfl⟩ := List.mem_map.mp hd
    exact hf x hx
theorem w_lcNF {E : Exn → DL.Env → Prop} {P : D → DL.Env → Prop} {ρ : DL.Env} {v : Nat} {l : List Nat} {src : DL.Env → Out (List D)} {t : DL.Env → Out Bool} {f : DL.Env → Out D} (tb : Nat → Bool) (fv : Nat → D) (hv : ∀ d, ρ[v]? = some (some d) → isF d = true) (hl : v < ρ.length) (hsrc : src ρ = .ok (l.map natD) ρ) (hc : l.length ≤ 1000000)
    (ht : ∀ x ∈ l, t (ρ.set v (some (natD x))) = .ok (tb x) (ρ.set v (some (natD x)))) (hf : ∀ x ∈ l, tb x = true → f (ρ.set v (some (natD x))) = .ok (fv x) (ρ.set v (some (natD x)))) (k : P (.lst true ((l.filter tb).map fv)) ρ) : WO E P (dLc [v] src (tg1 v) t f ρ) := by
  rw [w_lcF (fun d => tb (natOf d)) (fun d => fv (natOf d)) hv hl hsrc (by rw [List.length_map]; exact hc)]
  · rw [List.filter_map, List.map_map]
    exact k
  · intro d hd
    obtain ⟨x, hx, rfl⟩ := List.mem_map.mp hd
    exact ht x hx
  · intro d hd h
    obtain ⟨x, hx, rfl⟩ := List.mem_map.mp hd
    exact hf x hx h
theorem src_lst {ρ : DL.Env} {k : Kd} (hk : k = .lst ∨ k = .tup) {f : DL.Env → Out D} {l : List Nat} (h : f ρ = .ok (.n k false (l.map natD)) ρ) (hn : l.length ≤ 1000000) : dIter f ρ = .ok (l.map natD) ρ := by
  apply out_eq
  have hfl : isFL (l.map natD) = true := isFL_map fun _ => rfl
  rw [w_Iter, h]
  rcases hk with rfl | rfl <;> simp [hfl] <;> omega
theorem src_rngN {ρ : DL.Env} {f : DL.Env → Out D} {n : Nat} (h : f ρ = .ok (.a (.int (n : Int))) ρ) (hn : n ≤ 1000) : dRng1 f ρ = .ok ((List.range n).map natD) ρ := src_rng h hn
theorem has_app {Q : Ps} {i : Nat} {f : DL.Env → Out D} {d : D} {ρ : DL.Env} {xs : List D} (h : ρ[i]? = some (some (.lst true xs))) (hf : f ρ = .ok d ρ) (hl : xs.length < 1000000) (k : Q.nx (ρ.set i (some (.lst true (xs ++ [d]))))) : WP Q (dHas i (dBind f (stApp i)) ρ) := by
  rw [p_Has, h, so_some, so_some]
  refine ⟨trivial, ?_⟩
  rw [p_Bind, hf, wo_ok, p_App, h, so_some, so_some, asL_lst]
  exact ⟨hl, k⟩
structure RankS (n : Nat) (T : Tb) (r : Nat → Nat) : Prop where
  lt : ∀ x z, x < n → z < n → T z x = true → r z < r x
  ex : ∀ x, x < n → r x = 0 ∨ ∃ z, z < n ∧ T z x = true ∧ r z + 1 = r x
structure RankD (n : Nat) (T : Tb) (dom : List Nat) (r : Nat → Nat) : Prop where
  nd : dom.Nodup
  bd : ∀ x ∈ dom, x < n
  lt : ∀ x ∈ dom, ∀ z, z < n → T z x = true → z ∈ dom ∧ r z < r x
  ex : ∀ x ∈ dom, r x = 0 ∨ ∃ z, z < n ∧ T z x = true ∧ r z + 1 = r x
theorem RankD.len {n : Nat} {T : Tb} {dom : List Nat} {r : Nat → Nat} (h : RankD n T dom r) : dom.length ≤ n := by
  have := h.nd.length_le_of_subset (l₂ := List.range n) fun x hx => List.mem_range.mpr (h.bd x hx)
  simpa using this
theorem nfb : ¬ ("below" : Str) = "n" ∧ ¬ ("below" : Str) = "above" := by decide +kernel
theorem below_eq' {n : Nat} {T : Tb} (hn : n ≤ 60) : F_Order_below [.n (.ins "Order" ["n", "above"]) false [.a (.int (n : Int)), .n .tup false (vec n (mrow n T))]] = .rt (.n .tup false (vec n (mrow n fun y x => T x y))) none := below_eq hn
theorem size_rng {n i : Nat} {T : Tb} {ρ : DL.Env} (hn : n ≤ 60) (h : ρ[i]? = some (some (ordT n T))) : dRng1 (dMeth "Order" "size" 0 F_Order_size (dVar i) dANil) ρ = .ok ((List.range n).map natD) ρ :=
  src_rngN (out_eq (by simp [h, isF_ordT, asIns_ord, size_eq', nfs])) (by omega)
def downs (n : Nat) (T : Tb) (x : Nat) : Nat := ((List.range n).filter fun z => T z x).length
theorem downs_lt {n x y : Nat} {T : Tb} (tT : Tr n T) (iT : Irr n T) (hx : x < n) (hy : y < n) (h : T x y = true) : downs n T x < downs n T y :=
  filter_lt (p := fun z => T z x) (q := fun z => T z y) (fun z hz h2 => tT z x y (List.mem_range.mp hz) hx hy h2 h) ⟨x, List.mem_range.mpr hx, h, iT x hx⟩
theorem RankS.le {n : Nat} {T : Tb} {r : Nat → Nat} (tT : Tr n T) (iT : Irr n T) (h : RankS n T r) : ∀ (k x : Nat), x < n → downs n T x ≤ k → r x ≤ downs n T x := by
  intro k
  induction k with
  | zero =>
    intro x hx hk
    rcases h.ex x hx with e | ⟨z, hz, hT, e⟩
    · omega
    · have := downs_lt tT iT hz hx hT
      omega
  | succ k ih =>
    intro x hx hk
    rcases h.ex x hx with e | ⟨z, hz, hT, e⟩
    · omega
    · have h1 := downs_lt tT iT hz hx hT
      have h2 := ih z hz (by omega)
      omega
def height (n : Nat) (r : Nat → Nat) : Nat := (((List.range n).map fun x => (r x : Int)).foldl max (-1) + 1).toNat
theorem height_spec (n : Nat) (r : Nat → Nat) : (((List.range n).map fun x => (r x : Int)).foldl max (-1) + 1) = (height n r : Int) ∧ (∀ x, x < n → r x < height n r) ∧ (height n r = 0 ∨ ∃ x, x < n ∧ r x + 1 = height n r) := by
  obtain ⟨h1, h2, h3⟩ := foldl_max ((List.range n).map fun x => (r x : Int)) (-1)
  unfold height
  generalize ((List.range n).map fun x => (r x : Int)).foldl max (-1) = m at *
  refine ⟨by omega, fun x hx => ?_, ?_⟩
  · have := h2 (r x : Int) (List.mem_map.mpr ⟨x, List.mem_range.mpr hx, rfl⟩)
    omega
  · rcases h3 with e | e
    · left; omega
    · obtain ⟨x, hx, e⟩ := List.mem_map.mp e
      right
      exact ⟨x, List.mem_range.mp hx, by omega⟩
abbrev rkD (n : Nat) (r : Nat → Nat) : D := .n .tup false (vec n fun x => natD (r x))
section
variable {n : Nat} {T : Tb} {r : Nat → Nat}
theorem length_eq (hn : n ≤ 60) (hr : F_ranks [ordT n T] = .rt (rkD n r) none) : F_length [ordT n T] = .rt (.a (.int (height n r : Int))) none := by
  apply wf_eq
  unfold F_length
  rw [wf_fn]
  unfold B_length
  have hfl : isFL (vec n fun x => natD (r x)) = true := isFL_vec fun _ _ => rfl
  have gl : ∀ P : D → Prop, SO (gList (rkD n r)) P = P (.lst true (vec n fun x => natD (r x))) := fun P => by
    unfold gList rkD
    rfl
  have cat : ∀ P : D → Prop, SO (gAdd (.n .lst true [.a (.int (-1))]) (.lst true (vec n fun x => natD (r x)))) P = P (.lst true (((-1 : Int) :: (List.range n).map fun x => (r x : Int)).map D.int)) := fun P => by
    rw [catL rfl hfl (by simp; omega)]
    have : ([D.a (.int (-1))] ++ vec n fun x => natD (r x)) = ((-1 : Int) :: (List.range n).map fun x => (r x : Int)).map D.int := by
      unfold vec
      simp [natD]
    rw [this]
  have mx : ∀ (l : List Int) (P : D → Prop), SO (gMax1 (.lst true ((( -1 : Int) :: l).map D.int))) P = P (.a (.int (l.foldl max (-1)))) := fun l P => max1_eq
  rw [p_Bind, w_Op2, w_U, w_Op2]
  simp only [w_Lst, w_ACons, w_U, w_C, o_neg, w_ANil, wo_ok, agL_cons, agL_nil, Option.map_some, so_some]
  simp [isF_ordT, frz_ordT, hr, gl]
  rw [cat, mx]
  simp [(height_spec n r).1, ioOf]
end
end DC
namespace DC
open PySem L2 DL
theorem ixN_last {n : Nat} : ixN (n + 1) (-1) = some n := by
  unfold ixN
  have h1 : ¬ (0 : Int) ≤ -1 := by decide
  simp
  try omega
theorem gIxO_last {k : Kd} (hk : k = .lst ∨ k = .tup) {o : Bool} {xs : List D} {d : D} : gIxO (.n k o (xs ++ [d])) (.a (.int (-1))) = some d := by
  have : atI (xs ++ [d]) (-1) = some d := by
    unfold atI
    rw [List.length_append, List.length_singleton, ixN_last]
    simp
  rcases hk with rfl | rfl <;> exact this
structure Dsc (n : Nat) (T : Tb) (r : Nat → Nat) (h : Nat) (c : List Nat) : Prop where
  bd : ∀ x ∈ c, x < n
  rk : ∀ (s x : Nat), c[s]? = some x → r x + 1 + s = h
  ch : c.Pairwise fun a b => T b a = true
end DC
namespace DC
open PySem L2 DL
def ls {α : Type} (l : List α) (g : α → Int) : Int := (l.map g).sum
theorem ls_cons {α : Type} {a : α} {l : List α} {g : α → Int} : ls (a :: l) g = g a + ls l g := by simp [ls]
theorem ls_congr {α : Type} {l : List α} {g g' : α → Int} (h : ∀ x ∈ l, g x = g' x) : ls l g = ls l g' := by
  unfold ls
  rw [List.map_congr_left h]
section
variable {n : Nat} {T : Tb} (tT : Tr n T) (iT : Irr n T)
include tT iT
end
end DC
namespace DC
open PySem L2 DL
end DC
namespace DC
open PySem L2 DL
theorem ist_tup {xs : List D} {P : D → Prop} : SO (gIsi "tuple" (.n .tup false xs)) P = P (.a (.bl true)) := by
  rw [o_isi (t := "tuple") rfl]; simp [isiT]
end DC
namespace DC
open PySem L2 DL
def fl (n : Nat) (T : Tb) (F : Nat) : List Nat := (List.range n).filter fun x => !F.testBit x && (List.range n).all fun z => !T z x || F.testBit z
theorem mem_fl {n F x : Nat} {T : Tb} : x ∈ fl n T F ↔ x < n ∧ F.testBit x = false ∧ ∀ z, z < n → T z x = true → F.testBit z = true := by
  unfold fl
  rw [List.mem_filter, List.mem_range, Bool.and_eq_true, List.all_eq_true]
  constructor
  · rintro ⟨h1, h2, h3⟩
    refine ⟨h1, by simpa using h2, fun z hz h => ?_⟩
    have := h3 z (List.mem_range.mpr hz)
    simpa [h] using this
  · rintro ⟨h1, h2, h3⟩
    refine ⟨h1, by simp [h2], fun z hz => ?_⟩
    cases h : T z x with
    | false => rfl
    | true => rw [h3 z (List.mem_range.mp hz) h]; rfl
theorem fl_len {n F : Nat} {T : Tb} : (fl n T F).length ≤ n := by
  have := List.length_filter_le (fun x => !F.testBit x && (List.range n).all fun z => !T z x || F.testBit z) (List.range n)
  rw [List.length_range] at this
  exact this
def pt (F x : Nat) : Nat := F ||| 2 ^ x
theorem pt_bit {F x z : Nat} : (pt F x).testBit z = (F.testBit z || decide (x = z)) := by
  unfold pt
  rw [Nat.testBit_or, Nat.testBit_two_pow]
theorem pt_lt {n F x : Nat} (hF : F < 2 ^ n) (hx : x < n) : pt F x < 2 ^ n := Nat.or_lt_two_pow hF (Nat.pow_lt_pow_right (by decide) hx)
def bits (n F : Nat) : Nat := ((List.range n).filter F.testBit).length
theorem bits_pt {n F x : Nat} (hx : x < n) (h : F.testBit x = false) : bits n (pt F x) = bits n F + 1 := by
  unfold bits
  have hp : ((List.range n).filter (pt F x).testBit).Perm (x :: (List.range n).filter F.testBit) := by
    refine (List.perm_ext_iff_of_nodup (List.nodup_range.filter _) (List.nodup_cons.mpr ⟨fun q => ?_, List.nodup_range.filter _⟩)).mpr fun z => ?_
    · have := (List.mem_filter.mp q).2
      rw [h] at this; cases this
    · rw [List.mem_filter, List.mem_cons, List.mem_filter, List.mem_range, pt_bit]
      by_cases e : x = z
      · subst e; simp [hx]
      · have e' : ¬ z = x := fun q => e q.symm
        simp [e, e']
  rw [hp.length_eq, List.length_cons]
theorem bits_zero {n : Nat} : bits n 0 = 0 := by
  unfold bits
  rw [List.filter_eq_nil_iff.mpr fun x _ => by simp]
  rfl
def Wy (n : Nat) (T : Tb) : Nat → Nat → Int
  | 0, _ => 1
  | k + 1, F => ls (fl n T F) fun x => Wy n T k (pt F x)
def cmp (n : Nat) (T : Tb) : Nat → Nat → List (List Nat)
  | 0, _ => [[]]
  | k + 1, F => (fl n T F).flatMap fun x => (cmp n T k (pt F x)).map fun r => x :: r
theorem cmp_len {n : Nat} {T : Tb} : ∀ (k F : Nat), ((cmp n T k F).length : Int) = Wy n T k F
  | 0, F => rfl
  | k + 1, F => by
    have h : ∀ l : List Nat, ((l.flatMap fun x => (cmp n T k (pt F x)).map fun r => x :: r).length : Int) = ls l fun x => Wy n T k (pt F x) := fun l => by
      induction l with
      | nil => rfl
      | cons x l ih => rw [List.flatMap_cons, List.length_append, List.length_map, ls_cons, ← cmp_len k (pt F x), ← ih]; omega
    exact h _
def Wv (n : Nat) (T : Tb) (F : Nat) : Int := Wy n T (n - bits n F) F
theorem Wv_step {n F : Nat} {T : Tb} (h : bits n F < n) : Wv n T F = ls (fl n T F) fun x => Wv n T (pt F x) := by
  unfold Wv
  obtain ⟨k, hk⟩ : ∃ k, n - bits n F = k + 1 := ⟨n - bits n F - 1, by omega⟩
  rw [hk]
  show ls (fl n T F) (fun x => Wy n T k (pt F x)) = _
  refine ls_congr fun x hx => ?_
  obtain ⟨h1, h2, _⟩ := mem_fl.mp hx
  rw [bits_pt h1 h2, show n - (bits n F + 1) = k by omega]
inductive Lv (n : Nat) (T : Tb) : Nat → Nat → Prop
  | zero : Lv n T 0 0
  | step {t F x : Nat} : Lv n T t F → x ∈ fl n T F → Lv n T (t + 1) (pt F x)
theorem Lv.bits {n t F : Nat} {T : Tb} (h : Lv n T t F) : bits n F = t ∧ F < 2 ^ n := by
  induction h with
  | zero => exact ⟨bits_zero, Nat.two_pow_pos n⟩
  | step _ hx ih =>
    obtain ⟨h1, h2, _⟩ := mem_fl.mp hx
    exact ⟨by rw [bits_pt h1 h2, ih.1], pt_lt ih.2 h1⟩
theorem Lv.end_ {n F : Nat} {T : Tb} (h : Lv n T n F) : F = 2 ^ n - 1 := by
  obtain ⟨h1, h2⟩ := h.bits
  apply Nat.eq_of_testBit_eq
  intro i
  rw [Nat.testBit_two_pow_sub_one]
  by_cases hi : i < n
  · rw [decide_eq_true hi]
    false_or_by_contra
    rename_i hf
    have hs : ((List.range n).filter F.testBit).length < ((List.range n).filter fun _ => true).length := filter_lt (fun _ _ _ => rfl) ⟨i, List.mem_range.mpr hi, rfl, by simpa using hf⟩
    have e : ((List.range n).filter F.testBit).length = n := h1
    have e2 : ((List.range n).filter fun _ => true).length = n := by
      rw [List.filter_eq_self.mpr fun _ _ => rfl, List.length_range]
    omega
  · rw [decide_eq_false hi]
    exact Nat.testBit_lt_two_pow (Nat.lt_of_lt_of_le h2 (Nat.pow_le_pow_right (by decide) (by omega)))
end DC
namespace DC
open PySem L2 DL
theorem an_all : ((List.range 32).all fun a => (List.range 32).all fun F => decide (Builtin.bitAnd (a : Int) (Builtin.bitNot (F : Int)) = ((a - (a &&& F) : Nat) : Int))) = true := by decide +kernel
theorem an_eq {a F : Nat} (ha : a < 32) (hF : F < 32) : Builtin.bitAnd (a : Int) (Builtin.bitNot (F : Int)) = ((a - (a &&& F) : Nat) : Int) := by
  have := List.all_eq_true.mp (List.all_eq_true.mp an_all a (List.mem_range.mpr ha)) F (List.mem_range.mpr hF)
  simpa using this
theorem an_sub {n F : Nat} {f : Nat → Bool} : (mask n f - (mask n f &&& F) = 0) ↔ ∀ z, z < n → f z = true → F.testBit z = true := by
  have hle : mask n f &&& F ≤ mask n f := Nat.and_le_left
  have h1 : (mask n f - (mask n f &&& F) = 0) ↔ mask n f &&& F = mask n f := by omega
  rw [h1]
  constructor
  · intro h z hz hf
    have := congrArg (fun m => m.testBit z) h
    simp [mask_bit, hz, hf] at this
    exact this
  · intro h
    apply Nat.eq_of_testBit_eq
    intro i
    rw [Nat.testBit_and, mask_bit]
    by_cases hi : i < n
    · cases hf : f i with
      | false => simp
      | true => rw [h i hi hf]; simp
    · simp [hi]
theorem whole_sub {n F : Nat} (hF : F < 2 ^ n) : (2 ^ n - 1) - ((2 ^ n - 1) &&& F) = 2 ^ n - (F + 1) := by
  have : (2 ^ n - 1) &&& F = F := by
    apply Nat.eq_of_testBit_eq
    intro i
    rw [Nat.testBit_and, Nat.testBit_two_pow_sub_one]
    by_cases hi : i < n
    · simp [hi]
    · rw [Nat.testBit_lt_two_pow (Nat.lt_of_lt_of_le hF (Nat.pow_le_pow_right (by decide) (by omega)))]
      simp
  rw [this]
  omega
abbrev belD (n : Nat) (T : Tb) : D := .n .tup false (vec n (mrow n fun y x => T x y))
abbrev whD (n : Nat) : D := .a (.int ((2 ^ n - 1 : Nat) : Int))
theorem following_eq {n F : Nat} {T : Tb} (hn : n ≤ 5) (hF : F < 2 ^ n) : F_following_points [belD n T, whD n, natD F] = .rt (.n .lst true ((fl n T F).map natD)) none := by
  apply wf_eq
  unfold F_following_points
  rw [wf_fn]
  unfold B_following_points
  have h32 : 2 ^ n ≤ 2 ^ 5 := Nat.pow_le_pow_right (by decide) hn
  have h32b : (2 : Nat) ^ 5 = 32 := by decide
  obtain ⟨wh, hwh⟩ : ∃ wh : Nat, wh = 2 ^ n - 1 := ⟨_, rfl⟩
  have a1 : Builtin.bitAnd (wh : Int) (Builtin.bitNot (F : Int)) = ((2 ^ n - (F + 1) : Nat) : Int) := by
    rw [hwh, an_eq (by omega) (by omega), whole_sub hF]
  have hme := members_eq (m := 2 ^ n - (F + 1)) (n := n) (by omega) (by omega)
  have hfil : (List.range n).filter (2 ^ n - (F + 1)).testBit = (List.range n).filter fun x => !F.testBit x := List.filter_congr fun x hx => by
    rw [Nat.testBit_two_pow_sub_succ hF, decide_eq_true (List.mem_range.mp hx), Bool.true_and]
  rw [hfil, ← a1] at hme
  unfold whD
  rw [← hwh]
  have fb : isFL (vec n (mrow n fun y x => T x y)) = true := isFL_vec fun _ _ => rfl
  have hlen : ((List.range n).filter fun x => !F.testBit x).length ≤ n := by
    have := List.length_filter_le (fun x => !F.testBit x) (List.range n)
    rw [List.length_range] at this
    exact this
  have hv : ∀ ρ : DL.Env, ρ = [some (belD n T), some (.a (.int (wh : Int))), some (natD F), none] → dLc [3] (dIter (dCall 1 F_members (dACons (dOp2 gAnd (dVar 1) (dU gInv (dVar 2))) dANil))) (tg1 3) (dB (dOp2 gEq (dOp2 gAnd (dOp2 gIx (dVar 0) (dVar 3)) (dU gInv (dVar 2))) (dC (.int 0)))) (dVar 3) ρ = .ok (.lst true ((fl n T F).map natD)) ρ := by
    rintro _ rfl
    apply out_eq
    refine w_lcNF (l := (List.range n).filter fun x => !F.testBit x) (fun x => (List.range n).all fun z => !T z x || F.testBit z) natD (fun d h => by simp at h) (by simp) (src_lst (.inr rfl) (out_eq ?_) (by omega)) (by omega) (fun x hx => out_eq ?_) (fun x hx _ => out_eq ?_) ?_
    · have gi : ∀ P : D → Prop, SO (gInv (.a (.int (F : Int)))) P = P (.a (.int (Builtin.bitNot (F : Int)))) := fun P => rfl
      simp [natD, gi, hme]
    · have hx := List.mem_range.mp (List.mem_filter.mp hx).1
      have gi : ∀ P : D → Prop, SO (gInv (.a (.int (F : Int)))) P = P (.a (.int (Builtin.bitNot (F : Int)))) := fun P => rfl
      have gb : ∀ P : D → Prop, SO (gIx (belD n T) (.a (.int (x : Int)))) P = P (.a (.int ((mask n fun z => T z x : Nat) : Int))) := fun P => so_ixTF hx rfl
      have hm := mask_lt n fun z => T z x
      have a2 := an_eq (a := mask n fun z => T z x) (F := F) (by omega) (by omega)
      have a3 := an_sub (n := n) (F := F) (f := fun z => T z x)
      have e : decide (((mask n (fun z => T z x) - (mask n (fun z => T z x) &&& F) : Nat) : Int) = 0) = (List.range n).all fun z => !T z x || F.testBit z := by
        rw [Bool.eq_iff_iff, decide_eq_true_eq, List.all_eq_true]
        constructor
        · intro h z hz
          have h2 := a3.mp (by omega) z (List.mem_range.mp hz)
          cases hT : T z x with
          | false => rfl
          | true => rw [h2 hT]; rfl
        · intro h
          have h2 := a3.mpr fun z hz hT => by
            have := h z (List.mem_range.mpr hz)
            simpa [hT] using this
          omega
      rw [← e]
      simp [natD, gi, gb, a2]
    · simp
    · rw [List.filter_filter]
      refine ⟨?_, rfl⟩
      congr 2
      unfold fl
      refine List.filter_congr fun x _ => ?_
      rw [Bool.and_comm]
  simp [-w_Lc, hv, ioOf]
end DC
namespace DC
open PySem L2 DL
def addAll (acc l : List Nat) : List Nat := l.foldl (fun acc G => addN G acc) acc
theorem addAll_app {acc l l' : List Nat} : addAll acc (l ++ l') = addAll (addAll acc l) l' := List.foldl_append
theorem mem_addN {x y : Nat} {dom : List Nat} : y ∈ addN x dom ↔ y ∈ dom ∨ y = x := by
  unfold addN
  by_cases e : x ∈ dom
  · rw [if_pos e]
    constructor
    · intro h; exact .inl h
    · rintro (h | rfl)
      · exact h
      · exact e
  · rw [if_neg e]
    simp
theorem mem_addAll {y : Nat} : ∀ {l acc : List Nat}, y ∈ addAll acc l ↔ y ∈ acc ∨ y ∈ l
  | [], acc => by simp [addAll]
  | x :: l, acc => by
    show y ∈ addAll (addN x acc) l ↔ _
    rw [mem_addAll, mem_addN, List.mem_cons, or_assoc]
theorem addN_len {x : Nat} {dom : List Nat} : (addN x dom).length ≤ dom.length + 1 := by
  unfold addN
  split
  · omega
  · simp
theorem addAll_len : ∀ {l acc : List Nat}, (addAll acc l).length ≤ acc.length + l.length
  | [], acc => by simp [addAll]
  | x :: l, acc => by
    have h1 := addAll_len (l := l) (acc := addN x acc)
    have h2 := addN_len (x := x) (dom := acc)
    show (addAll (addN x acc) l).length ≤ _
    rw [List.length_cons]
    omega
def stp (n : Nat) (T : Tb) (F : Nat) : List Nat := (fl n T F).map (pt F)
def lvl (n : Nat) (T : Tb) : Nat → List Nat
  | 0 => [0]
  | t + 1 => addAll [] ((lvl n T t).flatMap (stp n T))
theorem mem_lvl {n : Nat} {T : Tb} : ∀ {t F : Nat}, F ∈ lvl n T t ↔ Lv n T t F
  | 0, F => by
    constructor
    · intro h
      have : F = 0 := by simpa [lvl] using h
      subst this; exact .zero
    · intro h
      cases h
      simp [lvl]
  | t + 1, F => by
    unfold lvl
    rw [mem_addAll, List.mem_flatMap]
    constructor
    · rintro (h | ⟨G, hG, h⟩)
      · cases h
      · obtain ⟨x, hx, rfl⟩ := List.mem_map.mp h
        exact .step (mem_lvl.mp hG) hx
    · intro h
      cases h with
      | step hG hx => exact .inr ⟨_, mem_lvl.mpr hG, List.mem_map.mpr ⟨_, hx, rfl⟩⟩
theorem stp_len {n F : Nat} {T : Tb} : (stp n T F).length ≤ n := by
  unfold stp
  rw [List.length_map]
  exact fl_len
theorem flat_lenB {α β : Type} {f : α → List β} {m : Nat} (h : ∀ a, (f a).length ≤ m) : ∀ l : List α, (l.flatMap f).length ≤ l.length * m
  | [] => by simp
  | a :: l => by
    rw [List.flatMap_cons, List.length_append, List.length_cons, Nat.succ_mul]
    have := h a
    have := flat_lenB h l
    omega
theorem lvl_len {n : Nat} {T : Tb} (hn : n ≤ 5) : ∀ t, (lvl n T t).length ≤ 5 ^ t
  | 0 => by simp [lvl]
  | t + 1 => by
    have h1 := lvl_len (T := T) hn t
    have h2 := flat_lenB (f := stp n T) (m := 5) (fun r => Nat.le_trans stp_len hn) (lvl n T t)
    have h3 := addAll_len (acc := []) (l := (lvl n T t).flatMap (stp n T))
    show (addAll [] ((lvl n T t).flatMap (stp n T))).length ≤ _
    rw [Nat.pow_succ]
    rw [List.length_nil, Nat.zero_add] at h3
    omega
theorem p5n {t : Nat} (h : t ≤ 5) : 5 ^ t ≤ 3125 := by
  have : t = 0 ∨ t = 1 ∨ t = 2 ∨ t = 3 ∨ t = 4 ∨ t = 5 := by omega
  rcases this with rfl | rfl | rfl | rfl | rfl | rfl <;> decide
theorem range_map_len2 {n : Nat} : ((List.range n).map natD).length = n := by simp
theorem whole_bits {n : Nat} : bits n (2 ^ n - 1) = n := by
  unfold bits
  rw [List.filter_eq_self.mpr fun x hx => by
    rw [Nat.testBit_two_pow_sub_one]
    simpa using hx, List.length_range]
theorem Wv_whole {n : Nat} {T : Tb} : Wv n T (2 ^ n - 1) = 1 := by
  unfold Wv
  rw [whole_bits, Nat.sub_self]
  rfl
theorem setm_rng {n : Nat} : setm (List.range n) = 2 ^ n - 1 := by
  apply Nat.eq_of_testBit_eq
  intro i
  rw [setm_bit, Nat.testBit_two_pow_sub_one]
  simp
theorem whole_eq {n : Nat} (hn : n ≤ 60) : F_set_of [.n .lst false ((List.range n).map natD)] = .rt (whD n) none := by
  rw [set_of_eq (.inl rfl) (by rw [List.length_range]; omega) (fun x hx => by have := List.mem_range.mp hx; omega), setm_rng]
def fW (n : Nat) (T : Tb) (F : Nat) : D := .a (.int (Wv n T F))
theorem put_fW {n F : Nat} {T : Tb} {dom : List Nat} : (addN F dom).map (updN F (.a (.int (Wv n T F))) (fW n T)) = (addN F dom).map (fW n T) := by
  refine List.map_congr_left fun y _ => ?_
  unfold updN
  by_cases e : y = F
  · subst e; simp [fW]
  · simp [e]
theorem or_shl {F x : Nat} {P : D → Prop} (hx : x ≤ 60) : SO (gShl (.a (.int 1)) (.a (.int (x : Int)))) (fun d => SO (gOrB (.a (.int (F : Int))) d) P) = P (natD (pt F x)) := by
  rw [o_shl1 (show x ≤ 1000000 by omega)]
  show P (.a (.int (Builtin.bitOr (F : Int) ((2 ^ x : Nat) : Int)))) = _
  rw [bor_nat]
  rfl
theorem gor_eq {F x i j : Nat} {ρ : DL.Env} (hx : x ≤ 60) (h1 : ρ[i]? = some (some (natD F))) (h2 : ρ[j]? = some (some (natD x))) : dOp2 gOrB (dVar i) (dOp2 gShl (dC (.int 1)) (dVar j)) ρ = .ok (natD (pt F x)) ρ := by
  apply out_eq
  rw [w_Op2, var_eq h1 rfl, wo_ok, w_Op2, w_C, var_eq h2 rfl, wo_ok]
  exact Eq.mpr (or_shl (P := fun d => d = natD (pt F x) ∧ ρ = ρ) hx) ⟨rfl, rfl⟩
theorem disp_eq {n : Nat} {T : Tb} {ρ : DL.Env} (h : ρ[2]? = some (some (whD n))) : dDisp1 (dVar 2) (dC (.int 1)) ρ = .ok (dctN true [2 ^ n - 1] (fW n T)) ρ := by
  have e : dctN true [2 ^ n - 1] (fW n T) = .n (.dct [ky (2 ^ n - 1)]) true [.a (.int 1)] := by
    unfold dctN
    rw [List.map_cons, List.map_nil, List.map_cons, List.map_nil]
    unfold fW
    rw [Wv_whole]
  rw [e]
  unfold dDisp1
  rw [var_eq h rfl]
  rfl
theorem wo_of {E : Exn → DL.Env → Prop} {P : D → DL.Env → Prop} {o : Out D} {x : D} {ρ : DL.Env} (h : o = .ok x ρ) (k : P x ρ) : WO E P o := by
  rw [h, wo_ok]
  exact k
theorem dput_N {Q : Ps} {i j n F : Nat} {T : Tb} {ρ : DL.Env} {dom : List Nat} (h : ρ[i]? = some (some (dctN true dom (fW n T)))) (hj : ρ[j]? = some (some (natD F))) (hc : dom.length < cap) (k : Q.nx (ρ.set i (some (dctN true (addN F dom) (fW n T))))) : WP Q (stDPut i (dVar j) (.a (.int (Wv n T F))) ρ) := by
  have hfl2 : isFL (dom.map (fW n T)) = true := isFL_map fun _ => rfl
  rw [p_DPut, h, so_some, so_some, asDct_N]
  refine ⟨rfl, ?_⟩
  rw [var_eq hj rfl, wo_ok, asKey_natD, h, so_some, so_some, asDct_N]
  refine ⟨rfl, ⟨⟨rfl, hfl2⟩, by rw [List.length_map]; exact hc⟩, ?_⟩
  rw [putKs_N, putXs_N, put_fW]
  exact k
theorem rev_src {n : Nat} {g : Nat → D} {ρ : DL.Env} (hg : ∀ i, isF (g i) = true) (hn : n ≤ 1000) (h : ρ[3]? = some (some (.n .lst false (vec (n + 1) g)))) : dIter (dFz (dU gRevA (dSl (dVar 3) none (some (dU gNeg (dC (.int 1))))))) ρ = .ok (vec n fun i => g (n - 1 - i)) ρ := by
  apply out_eq
  have f1 : ∀ m, isFL (vec m g) = true := fun m => isFL_vec fun i _ => hg i
  have f2 : ∀ m (k : Nat → Nat), isFL (vec m fun i => g (k i)) = true := fun m k => isFL_vec fun i _ => hg _
  have f3 : ∀ m (k : Nat → Nat), frzL (vec m fun i => g (k i)) = vec m fun i => g (k i) := fun m k => frzL_rows fun i _ => frz_isF _ (hg _)
  have hcut : cutD (vec (n + 1) g) none (some (-1)) = vec n g := by
    unfold cutD
    have e1 : HT.sIx (vec (n + 1) g).length 0 none = 0 := rfl
    have e2 : HT.sIx (vec (n + 1) g).length (vec (n + 1) g).length (some (-1)) = n := by
      rw [vec_len]
      show (if (-1 : Int) < 0 then ((-1 : Int) + ((n + 1 : Nat) : Int)).toNat else min (-1 : Int).toNat (n + 1)) = n
      rw [if_pos (by decide)]
      omega
    rw [e1, e2, Nat.sub_zero, List.drop_zero]
    unfold vec
    rw [← List.map_take, List.take_range, Nat.min_eq_left (by omega)]
  have hrev : (vec n g).reverse = vec n fun i => g (n - 1 - i) := by
    unfold vec
    refine List.ext_getElem (by simp) fun i h1 h2 => ?_
    simp
  have gs : ∀ P : D → Prop, SO (gSl (.n .lst false (vec (n + 1) g)) none (some (-1))) P = P (.lst true (vec n g)) := fun P => by
    unfold gSl
    simp [f1, hcut]
  have gr : ∀ P : D → Prop, SO (gRevA (.n .lst true (vec n g))) P = P (.lst true (vec n fun i => g (n - 1 - i))) := fun P => by
    unfold gRevA
    simp [f1, hrev]
  simp [h, f1, gs, gr, f2, f3]
  omega
theorem ways_on_wf {n : Nat} {T : Tb} (hn : n ≤ 5) : WF NoE (fun d io => ∃ dom : List Nat, d = dctN false dom (fW n T) ∧ io = none ∧ ∀ t F, t ≤ n → Lv n T t F → F ∈ dom) (F_ways_on [ordT n T]) := by
  unfold F_ways_on
  rw [wf_fn]
  unfold B_ways_on
  have hn60 : n ≤ 60 := by omega
  have hwh := whole_eq hn60
  have nfb : ¬ ("below" : Str) = "n" ∧ ¬ ("below" : Str) = "above" := by decide +kernel
  refine wp_step fun K hK => ?_
  simp [isF_ordT, asIns_ord, below_eq' hn60, nfb]
  apply hK
  clear hK K
  refine wp_cutK (fun ρ => ρ = [some (ordT n T), some (belD n T), some (whD n), none, none, none, none, none, none, none]) (fun K hK => ?_) ?_
  · have il : frzL (intL 0 n) = (List.range n).map natD := by rw [intL_vec]; exact frzL_rows fun _ _ => rfl
    simp [isF_ordT, asIns_ord, size_eq', nfs, il, hwh]
    exact ⟨by omega, hK _ rfl⟩
  intro ρ h
  subst h
  refine wp_step fun K hK => ?_
  simp
  apply hK
  clear hK K
  have flv : ∀ l : List Nat, isFL (l.map natD) = true := fun l => isFL_map fun _ => rfl
  have flB : isFL (vec n (mrow n fun y x => T x y)) = true := isFL_vec fun _ _ => rfl
  have frL : ∀ m, frzL (vec m fun t => .n .lst false ((lvl n T t).map natD)) = vec m fun t => .n .lst false ((lvl n T t).map natD) := fun m => frzL_rows fun _ _ => by rw [frz_n, frzL_natD]
  refine wp_cutK (fun ρ => ∃ (v4 v7 v8 v9 : Option D), ρ = [some (ordT n T), some (belD n T), some (whD n), some (.n .lst false (vec (n + 1) fun t => .n .lst false ((lvl n T t).map natD))), v4, none, none, v7, v8, v9] ∧ (∀ d, v9 = some d → isF d = true)) (fun K hK => ?_) ?_
  · rw [wx, p_Frz, p_For, size_rng hn60 rfl, wo_ok]
    refine wp_forK (fun t ρ => ∃ (v4 v7 v8 v9 : Option D), ρ = [some (ordT n T), some (belD n T), some (whD n), some (.n .lst true (vec (t + 1) fun t => .n .lst false ((lvl n T t).map natD))), v4, none, none, v7, v8, v9] ∧ (∀ d, v9 = some d → isF d = true)) ⟨none, none, none, none, (by simp; rfl), fun d h => by cases h⟩ ?_ ?_
    · intro t d ρ hd h J hJ
      obtain ⟨v4, v7, v8, v9, hρ, h9⟩ := h
      subst hρ
      obtain ⟨ht, rfl⟩ := vec_get' (f := natD) hd
      have hl1 := lvl_len (T := T) hn t
      have hl2 := p5n (show t ≤ 5 by omega)
      rw [s_tg1]
      refine ⟨by simp, ?_⟩
      refine wp_step fun K hK => ?_
      simp
      apply hK
      clear hK K
      refine wp_cutK (fun ρ => ∃ (v4 v8 v9 : Option D), ρ = [some (ordT n T), some (belD n T), some (whD n), some (.n .lst true (vec (t + 1) fun t => .n .lst false ((lvl n T t).map natD))), v4, none, none, some (.n .lst false ((lvl n T (t + 1)).map natD)), v8, v9] ∧ (∀ d, v9 = some d → isF d = true)) (fun K hK => ?_) ?_
      · rw [wx, p_Frz]
        have glast : ∀ (P : D → Prop), SO (gIxO (.n .lst true (vec (t + 1) fun t => .n .lst false ((lvl n T t).map natD))) (.a (.int (-1)))) P = P (.n .lst false ((lvl n T t).map natD)) := fun P => by
          rw [vec_succ, gIxO_last (.inl rfl)]
          rfl
        simp [glast, flv]
        refine ⟨by omega, ?_⟩
        refine wp_forK (fun i ρ => ∃ (v4 v8 v9 : Option D), ρ = [some (ordT n T), some (belD n T), some (whD n), some (.n .lst true (vec (t + 1) fun t => .n .lst false ((lvl n T t).map natD))), v4, none, none, some (.n .lst true ((addAll [] (((lvl n T t).take i).flatMap (stp n T))).map natD)), v8, v9] ∧ (∀ d, v9 = some d → isF d = true)) ⟨some (natD t), v8, v9, by simp [addAll], h9⟩ ?_ ?_
        · intro i d ρ hd h J2 hJ2
          obtain ⟨v4, v8, v9, hρ, h9⟩ := h
          subst hρ
          obtain ⟨F, hF, rfl⟩ := natD_get hd
          have hLv := mem_lvl.mp (List.mem_of_getElem? hF)
          have hFb := hLv.bits
          have hfo := following_eq (T := T) hn hFb.2
          have hfl := fl_len (n := n) (T := T) (F := F)
          rw [s_tg1]
          refine ⟨by simp, ?_⟩
          have hsrc : ∀ (v : D) (ρ : DL.Env), ρ[1]? = some (some (belD n T)) → ρ[2]? = some (some (whD n)) → ρ[8]? = some (some (natD F)) → dIter (dFz (dCall 3 F_following_points (dACons (dVar 1) (dACons (dVar 2) (dACons (dVar 8) dANil))))) ρ = .ok ((fl n T F).map natD) ρ := fun v ρ h1 h2 h3 => by
            refine src_lst (.inl rfl) (out_eq ?_) (by omega)
            simp [h1, h2, h3, flB, hfo, frzL_natD]
          rw [p_For, hsrc (natD F) _ rfl rfl rfl, wo_ok]
          refine wp_forK (fun j ρ => ∃ (v4 v9 : Option D), ρ = [some (ordT n T), some (belD n T), some (whD n), some (.n .lst true (vec (t + 1) fun t => .n .lst false ((lvl n T t).map natD))), v4, none, none, some (.n .lst true ((addAll [] (((lvl n T t).take i).flatMap (stp n T) ++ ((fl n T F).take j).map (pt F))).map natD)), some (natD F), v9] ∧ (∀ d, v9 = some d → isF d = true)) ⟨v4, v9, by simp, h9⟩ ?_ ?_
          · intro j d ρ hd h J3 hJ3
            obtain ⟨v4, v9, hρ, h9⟩ := h
            subst hρ
            obtain ⟨x, hx, rfl⟩ := natD_get hd
            have hxm := mem_fl.mp (List.mem_of_getElem? hx)
            have hG : ∀ ρ : DL.Env, ρ[8]? = some (some (natD F)) → ρ[9]? = some (some (natD x)) → dOp2 gOrB (dVar 8) (dOp2 gShl (dC (.int 1)) (dVar 9)) ρ = .ok (natD (pt F x)) ρ := fun ρ h1 h2 => gor_eq (by omega) h1 h2
            obtain ⟨acc, hacc⟩ : ∃ acc, acc = addAll [] (((lvl n T t).take i).flatMap (stp n T) ++ ((fl n T F).take j).map (pt F)) := ⟨_, rfl⟩
            have hJ' := hJ3 _ ⟨v4, some (natD x), rfl, fun d h => by cases h; rfl⟩
            rw [List.take_succ, hx, List.map_append, ← List.append_assoc, addAll_app, ← hacc] at hJ'
            have e1 : addAll acc (List.map (pt F) (some x).toList) = addN (pt F x) acc := rfl
            rw [e1] at hJ'
            have hal : acc.length < 1000000 := by
              have h1 := flat_lenB (f := stp n T) (m := 5) (fun r => Nat.le_trans stp_len hn) ((lvl n T t).take i)
              have h2 := addAll_len (acc := []) (l := ((lvl n T t).take i).flatMap (stp n T) ++ ((fl n T F).take j).map (pt F))
              rw [List.length_nil, Nat.zero_add, List.length_append, List.length_map, List.length_take, ← hacc] at h2
              rw [List.length_take] at h1
              omega
            rw [← hacc]
            rw [s_tg1]
            refine ⟨by simp, ?_⟩
            rw [p_If]
            refine wo_val (!decide (pt F x ∈ acc)) ?_ ?_
            · rw [w_B, w_Op2, hG _ rfl rfl, wo_ok, w_Peek]
              simp [natD, o_notinN (k := .lst) (.inl rfl)]
            · by_cases q : pt F x ∈ acc
              · rw [if_neg (by simp [q])]
                have e2 : addN (pt F x) acc = acc := if_pos q
                rw [e2] at hJ'
                exact hJ'
              · rw [if_pos (by simp [q])]
                have e2 : addN (pt F x) acc = acc ++ [pt F x] := if_neg q
                rw [e2, List.map_append] at hJ'
                refine has_app (xs := acc.map natD) (d := natD (pt F x)) (i := 7) rfl (hG _ rfl rfl) (by rw [List.length_map]; exact hal) ?_
                exact hJ'
          · intro ρ h
            obtain ⟨v4, v9, hρ, h9⟩ := h
            subst hρ
            rw [List.length_map, List.take_length]
            have hJ' := hJ2 _ ⟨v4, some (natD F), v9, rfl, h9⟩
            rw [List.take_succ, hF, List.flatMap_append] at hJ'
            simp at hJ' ⊢
            exact hJ'
        · intro ρ h
          obtain ⟨v4, v8, v9, hρ, h9⟩ := h
          subst hρ
          rw [List.length_map, List.take_length]
          have e : addAll [] ((lvl n T t).flatMap (stp n T)) = lvl n T (t + 1) := rfl
          rw [e]
          simp [frzL_natD]
          exact hK _ ⟨_, _, _, rfl, h9⟩
      · intro ρ h
        obtain ⟨v4, v8, v9, hρ, h9⟩ := h
        subst hρ
        have hJ' := hJ _ ⟨v4, some (.n .lst false ((lvl n T (t + 1)).map natD)), v8, v9, rfl, h9⟩
        rw [vec_succ (n := t + 1)] at hJ'
        simp [flv]
        exact ⟨by omega, hJ'⟩
    · intro ρ h
      obtain ⟨v4, v7, v8, v9, hρ, h9⟩ := h
      subst hρ
      rw [range_map_len2]
      simp [frL]
      exact hK _ ⟨_, _, _, _, rfl, h9⟩
  intro ρ h
  obtain ⟨v4, v7, v8, v9, hρ, h9⟩ := h
  subst hρ
  refine wp_step fun K hK => ?_
  rw [wx, p_Bind, disp_eq (T := T) rfl, wo_ok]
  simp
  apply hK
  clear hK K
  refine wp_cutK (fun ρ => ∃ (dom : List Nat) (v6 v7 v8 v9 : Option D), ρ = [some (ordT n T), some (belD n T), some (whD n), some (.n .lst false (vec (n + 1) fun t => .n .lst false ((lvl n T t).map natD))), v4, some (dctN false dom (fW n T)), v6, v7, v8, v9] ∧ (∀ t F, t ≤ n → Lv n T t F → F ∈ dom)) (fun K hK => ?_) ?_
  · rw [wx, p_Frz, p_For]
    have hsrc : ∀ ρ : DL.Env, ρ[3]? = some (some (.n .lst false (vec (n + 1) fun t => .n .lst false ((lvl n T t).map natD)))) → dIter (dFz (dU gRevA (dSl (dVar 3) none (some (dU gNeg (dC (.int 1))))))) ρ = .ok (vec n fun i => .n .lst false ((lvl n T (n - 1 - i)).map natD)) ρ := fun ρ h => rev_src (fun i => by rw [isF_n, flv]; rfl) (by omega) h
    rw [hsrc _ rfl, wo_ok]
    refine wp_forK (fun i ρ => ∃ (dom : List Nat) (v6 v7 v8 v9 : Option D), ρ = [some (ordT n T), some (belD n T), some (whD n), some (.n .lst false (vec (n + 1) fun t => .n .lst false ((lvl n T t).map natD))), v4, some (dctN true dom (fW n T)), v6, v7, v8, v9] ∧ ((∀ t F, n ≤ t + i → t ≤ n → Lv n T t F → F ∈ dom) ∧ dom.length ≤ 1 + i * 3125 ∧ ∀ d, v9 = some d → isF d = true)) ⟨[2 ^ n - 1], none, v7, v8, v9, rfl, fun t F h1 h2 h3 => ?_, by simp, h9⟩ ?_ ?_
    · have : t = n := by omega
      subst this
      rw [h3.end_]
      simp
    · intro i d ρ hd h J hJ
      obtain ⟨dom, v6, v7, v8, v9, hρ, hdom, hdl, h9⟩ := h
      subst hρ
      obtain ⟨hi, rfl⟩ := vec_get' (f := fun i => .n .lst false ((lvl n T (n - 1 - i)).map natD)) hd
      obtain ⟨t, ht⟩ : ∃ t, t = n - 1 - i := ⟨_, rfl⟩
      rw [← ht]
      have hl1 := lvl_len (T := T) hn t
      have hl2 := p5n (show t ≤ 5 by omega)
      rw [s_tg1]
      refine ⟨by simp, ?_⟩
      rw [p_For, src_lst (l := lvl n T t) (.inl rfl) (var_eq rfl (by simp)) (by omega), wo_ok]
      refine wp_forK (fun j ρ => ∃ (dom' : List Nat) (v6 v7 v8 v9 : Option D), ρ = [some (ordT n T), some (belD n T), some (whD n), some (.n .lst false (vec (n + 1) fun t => .n .lst false ((lvl n T t).map natD))), v4, some (dctN true dom' (fW n T)), v6, v7, v8, v9] ∧ ((∀ F ∈ dom, F ∈ dom') ∧ (∀ F ∈ (lvl n T t).take j, F ∈ dom') ∧ dom'.length ≤ 1 + i * 3125 + j ∧ ∀ d, v9 = some d → isF d = true)) ⟨dom, some (.n .lst false ((lvl n T t).map natD)), v7, v8, v9, rfl, fun F h => h, fun F h => (by simp at h), by omega, h9⟩ ?_ ?_
      · intro j d ρ hd h J2 hJ2
        obtain ⟨dom', v6, v7, v8, v9, hρ, hd1, hd2, hdl', h9⟩ := h
        subst hρ
        obtain ⟨F, hF, rfl⟩ := natD_get hd
        have hLv := mem_lvl.mp (List.mem_of_getElem? hF)
        have hFb := hLv.bits
        have hfo := following_eq (T := T) hn hFb.2
        have hfl := fl_len (n := n) (T := T) (F := F)
        have hsub : ∀ x ∈ fl n T F, pt F x ∈ dom' := fun x hx => hd1 _ (hdom (t + 1) _ (by omega) (by omega) (.step hLv hx))
        rw [s_tg1]
        refine ⟨by simp, ?_⟩
        have hv : ∀ ρ : DL.Env, ρ = [some (ordT n T), some (belD n T), some (whD n), some (.n .lst false (vec (n + 1) fun t => .n .lst false ((lvl n T t).map natD))), v4, some (dctN true dom' (fW n T)), v6, v7, some (natD F), v9] → dU gSum (dLc [9] (dIter (dFz (dCall 3 F_following_points (dACons (dVar 1) (dACons (dVar 2) (dACons (dVar 8) dANil)))))) (tg1 9) dYes (dDGet 5 (dOp2 gOrB (dVar 8) (dOp2 gShl (dC (.int 1)) (dVar 9))))) ρ = .ok (.a (.int (Wv n T F))) ρ := by
          rintro _ rfl
          apply out_eq
          rw [w_U]
          refine w_lcN (l := fl n T F) (fun x => fW n T (pt F x)) (fun d h => ?_) (by simp) (src_lst (.inl rfl) (out_eq ?_) (by omega)) (by omega) (fun x hx => out_eq ?_) ?_
          · simp at h
            exact h9 d h
          · simp [flB, hfo, frzL_natD]
          · have hxm := mem_fl.mp hx
            rw [w_DGet, gor_eq (F := F) (x := x) (i := 8) (j := 9) (by omega) rfl rfl]
            simp [asDct_N, asKey_natD, dctAt_N, hsub x hx]
            rfl
          · show SO (gSum (.n .lst true ((fl n T F).map fun x => .a (.int (Wv n T (pt F x)))))) _
            rw [o_sumL]
            refine ⟨?_, rfl⟩
            rw [Wv_step (by rw [hFb.1]; omega)]
            rfl
        rw [p_Bind]
        refine wo_of (hv _ rfl) ?_
        have hj := (List.getElem?_eq_some_iff.mp hF).1
        have hfl2 : isFL (dom'.map (fW n T)) = true := isFL_map fun _ => rfl
        have hle := addN_len (x := F) (dom := dom')
        have hc : dom'.length < cap := Nat.lt_of_lt_of_le (show dom'.length < 1000000 by
          have : i * 3125 ≤ 5 * 3125 := Nat.mul_le_mul_right _ (by omega)
          omega) (by decide)
        have hJ' := hJ2 _ ⟨addN F dom', v6, v7, some (natD F), v9, rfl, fun G h => mem_addN.mpr (.inl (hd1 G h)), fun G h => by
          rw [List.take_succ, hF] at h
          rcases List.mem_append.mp h with h | h
          · exact mem_addN.mpr (.inl (hd2 G h))
          · have : G = F := by simpa using h
            exact mem_addN.mpr (.inr this), by omega, h9⟩
        refine dput_N rfl rfl hc ?_
        exact hJ'
      · intro ρ h
        obtain ⟨dom', v6, v7, v8, v9, hρ, hd1, hd2, hdl', h9⟩ := h
        subst hρ
        rw [List.length_map] at hdl'
        rw [List.length_map, List.take_length] at hd2
        refine hJ _ ⟨dom', v6, v7, v8, v9, rfl, fun s F h1 h2 h3 => ?_, by omega, h9⟩
        by_cases e : s = t
        · subst e
          exact hd2 F (mem_lvl.mpr h3)
        · exact hd1 F (hdom s F (by omega) h2 h3)
    · intro ρ h
      obtain ⟨dom, v6, v7, v8, v9, hρ, hdom, hdl, h9⟩ := h
      subst hρ
      rw [vec_len] at hdom
      have fz : frz (dctN true dom (fW n T)) = dctN false dom (fW n T) := by
        unfold dctN
        rw [frz_n, frzL_map fun _ => rfl]
      simp [frzAt, fz]
      exact hK _ ⟨dom, _, _, _, _, rfl, fun t F h1 h2 => hdom t F (by omega) h1 h2⟩
  intro ρ h
  obtain ⟨dom, v6, v7, v8, v9, hρ, hdom⟩ := h
  subst hρ
  have hf : isF (dctN false dom (fW n T)) = true := by
    unfold dctN
    rw [isF_n, isFL_map fun _ => rfl]
    rfl
  simp [hf, ioOf]
  exact ⟨dom, rfl, hdom⟩
end DC
namespace DC
open PySem L2 DL
def rwL (n : Nat) (T : Tb) : Nat → List (List Nat)
  | 0 => [[]]
  | t + 1 => (rwL n T t).flatMap fun r => (fl n T (setm r)).map fun x => r ++ [x]
def rwP (n : Nat) : Nat → List (List Nat)
  | 0 => [[]]
  | t + 1 => (rwP n t).flatMap fun r => ((List.range n).filter fun x => decide (x ∉ r)).map fun x => r ++ [x]
theorem setm_snoc {r : List Nat} {x : Nat} : setm (r ++ [x]) = pt (setm r) x := by
  unfold setm
  rw [List.foldl_append]
  rfl
theorem rwL_cmp {n : Nat} {T : Tb} : ∀ (k t : Nat), ((rwL n T t).flatMap fun r => (cmp n T k (setm r)).map fun s => r ++ s) = rwL n T (t + k)
  | 0, t => by
    have : (fun r : List Nat => (cmp n T 0 (setm r)).map fun s => r ++ s) = fun r => [r] := by
      funext r
      show [r ++ []] = [r]
      rw [List.append_nil]
    rw [this]
    simp
  | k + 1, t => by
    have h := rwL_cmp (n := n) (T := T) k (t + 1)
    rw [show t + 1 + k = t + (k + 1) by omega] at h
    rw [← h]
    show _ = ((rwL n T t).flatMap fun r => (fl n T (setm r)).map fun x => r ++ [x]).flatMap _
    rw [List.flatMap_assoc]
    congr 1
    funext r
    show ((fl n T (setm r)).flatMap fun x => (cmp n T k (pt (setm r) x)).map fun s => x :: s).map (fun s => r ++ s) = _
    rw [List.map_flatMap, List.flatMap_map]
    congr 1
    funext x
    rw [List.map_map, setm_snoc]
    refine List.map_congr_left fun s _ => ?_
    simp
theorem rwL_all {n : Nat} {T : Tb} : rwL n T n = cmp n T n 0 := by
  have h := rwL_cmp (n := n) (T := T) n 0
  rw [Nat.zero_add] at h
  rw [← h]
  show ([[]] : List (List Nat)).flatMap _ = _
  rw [List.flatMap_cons, List.flatMap_nil, List.append_nil]
  show (cmp n T n 0).map (fun s => [] ++ s) = _
  simp
def good (n : Nat) (T : Tb) (r : List Nat) : Prop := r.Pairwise (fun a b => T b a = false) ∧ ∀ y ∈ r, ∀ z, z < n → T z y = true → z ∈ r
theorem good_snoc {n x : Nat} {T : Tb} {r : List Nat} (iT : Irr n T) (hx : x < n) (hr : ∀ y ∈ r, y < n) (hxr : x ∉ r) : good n T (r ++ [x]) ↔ good n T r ∧ ∀ z, z < n → T z x = true → z ∈ r := by
  unfold good
  rw [List.pairwise_append]
  constructor
  · rintro ⟨⟨h1, _, h2⟩, h3⟩
    have h4 : ∀ a ∈ r, T x a = false := fun a ha => h2 a ha x (by simp)
    refine ⟨⟨h1, fun y hy z hz hT => ?_⟩, fun z hz hT => ?_⟩
    · have := h3 y (by simp [hy]) z hz hT
      rcases List.mem_append.mp this with h | h
      · exact h
      · have : z = x := by simpa using h
        subst this
        rw [h4 y hy] at hT; cases hT
    · have := h3 x (by simp) z hz hT
      rcases List.mem_append.mp this with h | h
      · exact h
      · have : z = x := by simpa using h
        subst this
        rw [iT z hz] at hT; cases hT
  · rintro ⟨⟨h1, h3⟩, h5⟩
    refine ⟨⟨h1, List.pairwise_singleton _ _, fun a ha b hb => ?_⟩, fun y hy z hz hT => ?_⟩
    · have : b = x := by simpa using hb
      subst this
      cases h : T b a with
      | false => rfl
      | true => exact absurd (h3 a ha b hx h) hxr
    · rcases List.mem_append.mp hy with h | h
      · exact List.mem_append_left _ (h3 y h z hz hT)
      · have : y = x := by simpa using h
        subst this
        exact List.mem_append_left _ (h5 z hz hT)
theorem rwP_ok {n : Nat} : ∀ {t : Nat} {r : List Nat}, r ∈ rwP n t → r.length = t ∧ r.Nodup ∧ ∀ y ∈ r, y < n
  | 0, r, h => by
    have : r = [] := by simpa [rwP] using h
    subst this
    exact ⟨rfl, .nil, fun y hy => by cases hy⟩
  | t + 1, r, h => by
    obtain ⟨r', h1, h2⟩ := List.mem_flatMap.mp h
    obtain ⟨x, hx, rfl⟩ := List.mem_map.mp h2
    obtain ⟨hx1, hx2⟩ := List.mem_filter.mp hx
    obtain ⟨a, b, c⟩ := rwP_ok h1
    have hx3 : x ∉ r' := by simpa using hx2
    refine ⟨by rw [List.length_append, a]; rfl, List.nodup_append.mpr ⟨b, by simp, fun u hu v hv e => ?_⟩, fun y hy => ?_⟩
    · have : v = x := by simpa using hv
      subst this; subst e; exact hx3 hu
    · rcases List.mem_append.mp hy with h | h
      · exact c y h
      · have : y = x := by simpa using h
        subst this; exact List.mem_range.mp hx1
open Classical in
theorem rwP_good {n : Nat} {T : Tb} (iT : Irr n T) : ∀ t, (rwP n t).filter (fun r => decide (good n T r)) = rwL n T t
  | 0 => by
    have : good n T [] := ⟨.nil, fun y hy => by cases hy⟩
    simp [rwP, rwL, this]
  | t + 1 => by
    show ((rwP n t).flatMap fun r => ((List.range n).filter fun x => decide (x ∉ r)).map fun x => r ++ [x]).filter _ = (rwL n T t).flatMap _
    rw [← rwP_good iT t, List.filter_flatMap]
    have key : ∀ l : List (List Nat), (∀ r ∈ l, r ∈ rwP n t) → (l.flatMap fun r => (((List.range n).filter fun x => decide (x ∉ r)).map fun x => r ++ [x]).filter fun r => decide (good n T r)) = (l.filter fun r => decide (good n T r)).flatMap fun r => (fl n T (setm r)).map fun x => r ++ [x] := by
      intro l
      induction l with
      | nil => intro _; rfl
      | cons r l ih =>
        intro hl
        rw [List.flatMap_cons, ih fun r hr => hl r (List.mem_cons_of_mem _ hr)]
        obtain ⟨_, hnd, hlt⟩ := rwP_ok (hl r (by simp))
        have e : ((((List.range n).filter fun x => decide (x ∉ r)).map fun x => r ++ [x]).filter fun r => decide (good n T r)) = if good n T r then (fl n T (setm r)).map (fun x => r ++ [x]) else [] := by
          rw [List.filter_map, List.filter_filter]
          by_cases hg : good n T r
          · rw [if_pos hg]
            congr 1
            unfold fl
            refine List.filter_congr fun x hx => ?_
            have hxn := List.mem_range.mp hx
            rw [Bool.eq_iff_iff]
            simp only [Function.comp, Bool.and_eq_true, decide_eq_true_eq, setm_bit, Bool.not_eq_true', decide_eq_false_iff_not, List.all_eq_true]
            constructor
            · rintro ⟨h1, h2⟩
              refine ⟨h2, fun z hz => ?_⟩
              have := ((good_snoc iT hxn hlt h2).mp h1).2 z (List.mem_range.mp hz)
              cases hT : T z x with
              | false => rfl
              | true => simp [this hT]
            · rintro ⟨h2, h3⟩
              refine ⟨(good_snoc iT hxn hlt h2).mpr ⟨hg, fun z hz hT => ?_⟩, h2⟩
              have := h3 z (List.mem_range.mpr hz)
              simpa [hT] using this
          · rw [if_neg hg]
            rw [List.filter_eq_nil_iff.mpr, List.map_nil]
            intro x hx
            have hxn := List.mem_range.mp hx
            simp only [Function.comp, Bool.and_eq_true, decide_eq_true_eq]
            rintro ⟨h1, h2⟩
            exact hg ((good_snoc iT hxn hlt h2).mp h1).1
        rw [e, List.filter_cons]
        by_cases hg : good n T r
        · simp [hg]
        · simp [hg]
    exact key _ fun r hr => hr
theorem perm_full {n : Nat} {r : List Nat} (h : r.length = n) (hnd : r.Nodup) (hlt : ∀ y ∈ r, y < n) {z : Nat} (hz : z < n) : z ∈ r := by
  have hsub : r.Subset (List.range n) := fun y hy => List.mem_range.mpr (hlt y hy)
  false_or_by_contra
  rename_i hn
  have : (z :: r).length ≤ (List.range n).length := (List.nodup_cons.mpr ⟨hn, hnd⟩).length_le_of_subset fun y hy => by
    rcases List.mem_cons.mp hy with rfl | hy
    · exact List.mem_range.mpr hz
    · exact hsub hy
  simp at this
  omega
def fitB (T : Tb) (r : List Nat) : Bool := decide (r.Pairwise fun a b => T b a = false)
theorem rwP_fit {n : Nat} {T : Tb} (iT : Irr n T) : (rwP n n).filter (fitB T) = cmp n T n 0 := by
  classical
  rw [← rwL_all, ← rwP_good iT n]
  refine List.filter_congr fun r hr => ?_
  obtain ⟨h1, h2, h3⟩ := rwP_ok hr
  unfold fitB
  refine decide_eq_decide.mpr ⟨fun h => ⟨h, fun y hy z hz _ => perm_full h1 h2 h3 hz⟩, fun h => h.1⟩
def rk (n : Nat) (T : Tb) : Nat → List Nat → Int
  | _, [] => 0
  | F, y :: s => ls ((fl n T F).filter fun x => decide (x < y)) (fun x => Wv n T (pt F x)) + rk n T (pt F y) s
end DC
namespace DC
open PySem L2 DL
theorem cmp_cons {n m F y : Nat} {T : Tb} {s : List Nat} : (y :: s) ∈ cmp n T (m + 1) F ↔ y ∈ fl n T F ∧ s ∈ cmp n T m (pt F y) := by
  show (y :: s) ∈ (fl n T F).flatMap _ ↔ _
  rw [List.mem_flatMap]
  constructor
  · rintro ⟨x, hx, h⟩
    obtain ⟨s', hs, e⟩ := List.mem_map.mp h
    injection e with e1 e2
    subst e1 e2
    exact ⟨hx, hs⟩
  · rintro ⟨h1, h2⟩
    exact ⟨y, h1, List.mem_map.mpr ⟨s, h2, rfl⟩⟩
theorem Wv_zero {n : Nat} {T : Tb} : Wv n T 0 = ((cmp n T n 0).length : Int) := by
  rw [cmp_len]
  unfold Wv
  rw [bits_zero, Nat.sub_zero]
theorem count_eq {n : Nat} {T : Tb} (hn : n ≤ 5) : F_count_linear [ordT n T] = .rt (.a (.int (Wv n T 0))) none := by
  apply wf_eq
  unfold F_count_linear
  rw [wf_fn]
  unfold B_count_linear
  simp [isF_ordT, frz_ordT]
  refine (ways_on_wf hn).mono ?_
  rintro d io ⟨dom, rfl, rfl, hdom⟩
  have h0 := hdom 0 0 (Nat.zero_le _) .zero
  have e : (.inl 0 : Key) = ky 0 := rfl
  simp [asDct_N, e, dctAt_N, h0, fW, ioOf]
end DC
namespace DC
open PySem L2 DL
structure Pm (n : Nat) (r : List Nat) : Prop where
  len : r.length = n
  nd : r.Nodup
  lt : ∀ y ∈ r, y < n
theorem Pm.perm {n : Nat} {r : List Nat} (h : Pm n r) : r.Perm (List.range n) := (List.perm_ext_iff_of_nodup h.nd List.nodup_range).mpr fun z => ⟨fun hz => List.mem_range.mpr (h.lt z hz), fun hz => perm_full h.len h.nd h.lt (List.mem_range.mp hz)⟩
theorem sortT_pm {n : Nat} {r : List Nat} (h : Pm n r) (P : D → Prop) : SO (gSortIT (tupN r)) P = P (.lst true (vec n fun i => .a (.int (i : Int)))) := by
  have e : intsOf (r.map natD) = some (r.map fun (x : Nat) => (x : Int)) := intsOf_map (f := fun (x : Nat) => (x : Int)) r
  have hs : sortI (r.map fun (x : Nat) => (x : Int)) = (List.range n).map fun (x : Nat) => (x : Int) := by
    refine List.Perm.eq_of_pairwise (le := fun a b : Int => a ≤ b) (fun a b _ _ h1 h2 => by omega) (sortI_sorted _) ?_ ((sortI_perm _).trans (h.perm.map _))
    rw [List.pairwise_map]
    exact List.pairwise_lt_range.imp fun h => by omega
  unfold gSortIT tupN
  dsimp only
  rw [e, Option.map_some, so_some, hs, List.map_map]
  rfl
theorem is_row_eq {n : Nat} {r : List Nat} (hn : n ≤ 1000) (h : Pm n r) : F_is_row [tupN r, .a (.int (n : Int))] = .rt (.a (.bl true)) none := by
  apply wf_eq
  unfold F_is_row
  rw [wf_fn]
  unfold B_is_row
  have lt : ∀ P : D → Prop, SO (gLen (tupN r)) P = P (.a (.int (n : Int))) := fun P => by unfold tupN; simp [h.len]
  have ist : ∀ P : D → Prop, SO (gIsi "tuple" (tupN r)) P = P (.a (.bl true)) := fun P => by unfold tupN; exact ist_tup
  refine wp_step fun K hK => ?_
  simp [lt, ist]
  apply hK
  clear hK K
  have hv : ∀ ρ : DL.Env, ρ = [some (tupN r), some (.a (.int (n : Int))), none] → dU gAll (dLc [2] (dIter (dVar 0)) (tg1 2) dYes (dCall 1 F_is_integer (dACons (dVar 2) dANil))) ρ = .ok (.a (.bl true)) ρ := by
    rintro _ rfl
    apply out_eq
    rw [w_U]
    refine w_lcN (l := r) (fun _ => .a (.bl true)) (fun d h => by simp at h) (by simp) (src_lst (.inr rfl) (var_eq rfl isF_tupN) (by rw [h.len]; omega)) (by rw [h.len]; omega) (fun x hx => out_eq (by simp [natD, isint_eq])) ?_
    rw [o_allL]
    simp
  have srt := sortT_pm h
  have eq1 : ∀ (o o' : Bool) (P : D → Prop), SO (gEq (.n .lst o (vec n fun i => .a (.int (i : Int)))) (.n .lst o' (vec n fun i => .a (.int (i : Int))))) P = P (.a (.bl true)) := fun o o' P => eq_same (.inr rfl) fun x hx => by
    obtain ⟨i, hi, rfl⟩ := mem_vec hx
    rfl
  simp [-w_Lc, hv, srt, intL_vec, eq1, ioOf]
  omega
end DC
namespace DC
open PySem L2 DL
end DC
namespace DC
open PySem L2 DL
theorem add_tup2 {r : List Nat} {y : Nat} {P : D → Prop} (h : r.length ≤ 1000) : SO (gAdd (tupN r) (.n .tup false [natD y])) P = P (tupN (r ++ [y])) := by
  unfold tupN
  rw [catT (by simp) (by rfl) (by simp; omega), List.map_append]
  rfl
theorem snoc_eq {r : List Nat} {x i j : Nat} {ρ : DL.Env} (hr : r.length ≤ 1000) (h1 : ρ[i]? = some (some (tupN r))) (h2 : ρ[j]? = some (some (natD x))) : dOp2 gAdd (dVar i) (dTup (dACons (dVar j) dANil)) ρ = .ok (tupN (r ++ [x])) ρ := by
  apply out_eq
  have := fun P => add_tup2 (r := r) (y := x) (P := P) hr
  simp only [natD] at h2 this
  simp [h1, h2, this]
theorem rwL_ok {n : Nat} {T : Tb} (iT : Irr n T) {t : Nat} {r : List Nat} (h : r ∈ rwL n T t) : r.length = t ∧ r.Nodup ∧ ∀ y ∈ r, y < n := by
  classical
  rw [← rwP_good iT t] at h
  exact rwP_ok (List.mem_filter.mp h).1
theorem rwL_len {n : Nat} {T : Tb} (hn : n ≤ 5) : ∀ t, (rwL n T t).length ≤ 5 ^ t
  | 0 => by simp [rwL]
  | t + 1 => by
    have h1 := rwL_len (T := T) hn t
    have h2 := flat_lenB (f := fun r => (fl n T (setm r)).map fun x => r ++ [x]) (m := 5) (fun r => by
      rw [List.length_map]
      exact Nat.le_trans fl_len hn) (rwL n T t)
    show ((rwL n T t).flatMap fun r => (fl n T (setm r)).map fun x => r ++ [x]).length ≤ _
    rw [Nat.pow_succ]
    omega
theorem all_linear_eq {n : Nat} {T : Tb} (hn : n ≤ 5) (iT : Irr n T) : F_all_linear [ordT n T] = .rt (.n .tup false ((cmp n T n 0).map tupN)) none := by
  apply wf_eq
  unfold F_all_linear
  rw [wf_fn]
  unfold B_all_linear
  have hn60 : n ≤ 60 := by omega
  have hwh := whole_eq hn60
  have nfb : ¬ ("below" : Str) = "n" ∧ ¬ ("below" : Str) = "above" := by decide +kernel
  have hW : Wv n T 0 ≤ 3125 := by
    rw [Wv_zero, ← rwL_all]
    have h1 := rwL_len (T := T) hn n
    have h2 := p5n hn
    omega
  have fl0 : ∀ l : List (List Nat), isFL (l.map tupN) = true := fun l => isFL_map fun _ => isF_tupN
  have fr0 : ∀ l : List (List Nat), frzL (l.map tupN) = l.map tupN := fun l => frzL_map fun _ => isF_tupN
  have gl : ∀ (l : List (List Nat)) (P : D → Prop), SO (gList (.n .lst false (l.map tupN))) P = P (.lst true (l.map tupN)) := fun l P => by
    unfold gList
    simp [fl0]
  have flB : isFL (vec n (mrow n fun y x => T x y)) = true := isFL_vec fun _ _ => rfl
  refine wp_step fun K hK => ?_
  simp [isF_ordT, frz_ordT, count_eq hn]
  apply hK
  clear hK K
  refine wp_step fun K hK => ?_
  rw [wx, p_If]
  refine wo_val false (by simp; omega) ?_
  rw [if_neg (by decide)]
  apply hK
  clear hK K
  refine wp_step fun K hK => ?_
  simp [isF_ordT, asIns_ord, below_eq' hn60, nfb]
  apply hK
  clear hK K
  refine wp_cutK (fun ρ => ρ = [some (ordT n T), some (.a (.int (Wv n T 0))), some (belD n T), some (whD n), none, none, none, none, none]) (fun K hK => ?_) ?_
  · have il : frzL (intL 0 n) = (List.range n).map natD := by rw [intL_vec]; exact frzL_rows fun _ _ => rfl
    simp [isF_ordT, asIns_ord, size_eq', nfs, il, hwh]
    exact ⟨by omega, hK _ rfl⟩
  intro ρ h2
  subst h2
  refine wp_step fun K hK => ?_
  simp
  apply hK
  clear hK K
  refine wp_cutK (fun ρ => ∃ (v5 v6 v7 v8 : Option D), ρ = [some (ordT n T), some (.a (.int (Wv n T 0))), some (belD n T), some (whD n), some (.n .lst false ((rwL n T n).map tupN)), v5, v6, v7, v8]) (fun K hK => ?_) ?_
  · rw [wx, p_For, size_rng hn60 rfl, wo_ok]
    refine wp_forK (fun t ρ => ∃ (v5 v6 v7 v8 : Option D), ρ = [some (ordT n T), some (.a (.int (Wv n T 0))), some (belD n T), some (whD n), some (.n .lst false ((rwL n T t).map tupN)), v5, v6, v7, v8]) ⟨none, none, none, none, rfl⟩ ?_ ?_
    · intro t d ρ hd h J hJ
      obtain ⟨v5, v6, v7, v8, hρ⟩ := h
      subst hρ
      obtain ⟨ht, rfl⟩ := vec_get' (f := natD) hd
      have hl1 := rwL_len (T := T) hn t
      have hl2 := p5n (show t ≤ 5 by omega)
      rw [s_tg1]
      refine ⟨by simp, ?_⟩
      refine wp_step fun K hK => ?_
      simp
      apply hK
      clear hK K
      refine wp_cutK (fun ρ => ∃ (v7 v8 : Option D), ρ = [some (ordT n T), some (.a (.int (Wv n T 0))), some (belD n T), some (whD n), some (.n .lst false ((rwL n T t).map tupN)), some (natD t), some (.n .lst false ((rwL n T (t + 1)).map tupN)), v7, v8]) (fun K hK => ?_) ?_
      · rw [wx, p_Frz]
        simp [gl, fl0, fr0]
        refine ⟨by omega, ?_⟩
        refine wp_forK (fun i ρ => ∃ (v7 v8 : Option D), ρ = [some (ordT n T), some (.a (.int (Wv n T 0))), some (belD n T), some (whD n), some (.n .lst false ((rwL n T t).map tupN)), some (natD t), some (.n .lst true ((((rwL n T t).take i).flatMap fun r => (fl n T (setm r)).map fun x => r ++ [x]).map tupN)), v7, v8]) ⟨v7, v8, rfl⟩ ?_ ?_
        · intro i d ρ hd h J2 hJ2
          obtain ⟨v7, v8, hρ⟩ := h
          subst hρ
          rw [List.getElem?_map] at hd
          obtain ⟨r, hr, rfl⟩ := Option.map_eq_some_iff.mp hd
          obtain ⟨hrl, hrn, hrt⟩ := rwL_ok iT (List.mem_of_getElem? hr)
          have hso := set_of_eq (k := .tup) (.inr rfl) (l := r) (by omega) (fun x hx => by have := hrt x hx; omega)
          have hF := setm_lt hrt
          have hil := (List.getElem?_eq_some_iff.mp hr).1
          rw [s_tg1]
          refine ⟨by simp, ?_⟩
          have hfl := fl_len (n := n) (T := T) (F := setm r)
          have hsrc : ∀ ρ : DL.Env, ρ[2]? = some (some (belD n T)) → ρ[3]? = some (some (whD n)) → ρ[7]? = some (some (tupN r)) → dIter (dFz (dCall 3 F_following_points (dACons (dVar 2) (dACons (dVar 3) (dACons (dCall 1 F_set_of (dACons (dVar 7) dANil)) dANil))))) ρ = .ok ((fl n T (setm r)).map natD) ρ := fun ρ h1 h2 h3 => by
            have hfo := following_eq (T := T) hn hF
            have hso' : F_set_of [tupN r] = .rt (natD (setm r)) none := hso
            refine src_lst (.inl rfl) (out_eq ?_) (by omega)
            simp [h1, h2, h3, flB, hso', hfo, frzL_natD]
          rw [p_For, hsrc _ rfl rfl rfl, wo_ok]
          refine wp_forK (fun j ρ => ∃ (v8 : Option D), ρ = [some (ordT n T), some (.a (.int (Wv n T 0))), some (belD n T), some (whD n), some (.n .lst false ((rwL n T t).map tupN)), some (natD t), some (.n .lst true ((((rwL n T t).take i).flatMap (fun r => (fl n T (setm r)).map fun x => r ++ [x]) ++ ((fl n T (setm r)).take j).map fun x => r ++ [x]).map tupN)), some (tupN r), v8]) ⟨v8, by simp⟩ ?_ ?_
          · intro j d ρ hd h J3 hJ3
            obtain ⟨v8, hρ⟩ := h
            subst hρ
            obtain ⟨x, hx, rfl⟩ := natD_get hd
            have hJ' := hJ3 _ ⟨some (natD x), rfl⟩
            rw [List.take_succ, hx] at hJ'
            simp only [List.map_append, Option.toList_some, List.map_cons, List.map_nil, List.append_assoc] at hJ'
            rw [s_tg1]
            refine ⟨by simp, ?_⟩
            refine has_app (xs := ((((rwL n T t).take i).flatMap (fun r => (fl n T (setm r)).map fun x => r ++ [x]) ++ ((fl n T (setm r)).take j).map fun x => r ++ [x]).map tupN)) (d := tupN (r ++ [x])) (i := 6) rfl (snoc_eq (by omega) rfl rfl) ?_ ?_
            · have h1 := flat_lenB (f := fun r => (fl n T (setm r)).map fun x => r ++ [x]) (m := 5) (fun r => by
                rw [List.length_map]
                exact Nat.le_trans fl_len hn) ((rwL n T t).take i)
              rw [List.length_map, List.length_append, List.length_map, List.length_take]
              rw [List.length_take] at h1
              omega
            · show J3 _
              simp only [List.map_append, List.append_assoc]
              exact hJ'
          · intro ρ h
            obtain ⟨v8, hρ⟩ := h
            subst hρ
            rw [List.length_map, List.take_length]
            have hJ' := hJ2 _ ⟨some (tupN r), v8, rfl⟩
            rw [List.take_succ, hr, List.flatMap_append] at hJ'
            simp at hJ' ⊢
            exact hJ'
        · intro ρ h
          obtain ⟨v7, v8, hρ⟩ := h
          subst hρ
          rw [List.length_map, List.take_length]
          have e : ((rwL n T t).flatMap fun r => (fl n T (setm r)).map fun x => r ++ [x]) = rwL n T (t + 1) := rfl
          rw [e]
          simp [fr0]
          exact hK _ ⟨_, _, rfl⟩
      · intro ρ h
        obtain ⟨v7, v8, hρ⟩ := h
        subst hρ
        have hJ' := hJ _ ⟨some (natD t), some (.n .lst false ((rwL n T (t + 1)).map tupN)), v7, v8, rfl⟩
        simp [fl0]
        exact hJ'
    · intro ρ h
      obtain ⟨v5, v6, v7, v8, hρ⟩ := h
      subst hρ
      rw [range_map_len2]
      exact hK _ ⟨_, _, _, _, rfl⟩
  intro ρ h
  obtain ⟨v5, v6, v7, v8, hρ⟩ := h
  subst hρ
  rw [rwL_all]
  simp [fl0, ioOf]
end DC
namespace DC
open PySem L2 DL
end DC
namespace DC
open PySem L2 DL
theorem row_len {n : Nat} {xs : List D} (hf : isFL xs = true) (h : xs.length ≠ n) : F_is_row [.n .tup false xs, .a (.int (n : Int))] = .rt (.a (.bl false)) none := by
  apply wf_eq
  unfold F_is_row
  rw [wf_fn]
  unfold B_is_row
  have h2 : ¬ ((xs.length : Nat) : Int) = (n : Int) := by omega
  simp [hf, ist_tup, h, h2, ioOf]
end DC
set_option pp.maxSteps 1500
namespace DC
open PySem L2 DL
def bef (r : List Nat) (x y : Nat) : Bool := decide (r.idxOf x < r.idxOf y)
theorem Pm.idx {n x : Nat} {r : List Nat} (h : Pm n r) (hx : x < n) : r.idxOf x < n := by
  have := List.idxOf_lt_length_of_mem (perm_full h.len h.nd h.lt hx)
  rw [h.len] at this
  exact this
theorem Pm.at_ {n x : Nat} {r : List Nat} (h : Pm n r) (hx : x < n) : r[r.idxOf x]? = some x := by
  have hm := perm_full h.len h.nd h.lt hx
  rw [List.getElem?_eq_getElem (List.idxOf_lt_length_of_mem hm), List.getElem_idxOf]
theorem Pm.inj {n x y : Nat} {r : List Nat} (h : Pm n r) (hx : x < n) (hy : y < n) (e : r.idxOf x = r.idxOf y) : x = y := by
  have h1 := h.at_ hx
  rw [e, h.at_ hy] at h1
  exact (Option.some.inj h1).symm
theorem fit_idx {n : Nat} {T : Tb} {r : List Nat} (iT : Irr n T) (h : Pm n r) : fitB T r = true ↔ ∀ u v, u < n → v < n → T u v = true → bef r u v = true := by
  unfold fitB bef
  rw [decide_eq_true_eq, List.pairwise_iff_getElem]
  constructor
  · intro q u v hu hv e
    rw [decide_eq_true_eq]
    false_or_by_contra
    rename_i hn
    rcases Nat.lt_or_ge (r.idxOf v) (r.idxOf u) with hl | hl
    · have h1 := h.idx hu
      have h2 := h.idx hv
      have := q (r.idxOf v) (r.idxOf u) (by rw [h.len]; exact h2) (by rw [h.len]; exact h1) hl
      rw [List.getElem_idxOf, List.getElem_idxOf, e] at this
      cases this
    · have e2 := h.inj hu hv (by omega)
      subst e2
      rw [iT u hu] at e
      cases e
  · intro q i j hi hj hij
    cases e : T r[j] r[i] with
    | false => rfl
    | true =>
      have := q r[j] r[i] (h.lt _ (List.getElem_mem _)) (h.lt _ (List.getElem_mem _)) e
      rw [decide_eq_true_eq, h.nd.idxOf_getElem j hj, h.nd.idxOf_getElem i hi] at this
      omega
theorem rwP_pm {n : Nat} {r : List Nat} (h : r ∈ rwP n n) : Pm n r := by
  obtain ⟨h1, h2, h3⟩ := rwP_ok h
  exact ⟨h1, h2, h3⟩
theorem cmp_pm {n : Nat} {T : Tb} {r : List Nat} (iT : Irr n T) (h : r ∈ cmp n T n 0) : Pm n r ∧ fitB T r = true := by
  rw [← rwP_fit iT] at h
  obtain ⟨h1, h2⟩ := List.mem_filter.mp h
  exact ⟨rwP_pm h1, h2⟩
def add1 (T : Tb) (x y : Nat) : Tb := fun u v => T u v || ((decide (u = x) || T u x) && (decide (v = y) || T y v))
theorem add1_iff {T : Tb} {x y u v : Nat} : add1 T x y u v = true ↔ T u v = true ∨ (u = x ∨ T u x = true) ∧ (v = y ∨ T y v = true) := by
  unfold add1
  simp
theorem add1_tr {n x y : Nat} {T : Tb} (tT : Tr n T) (hx : x < n) (hy : y < n) (hne : x ≠ y) (hyx : T y x = false) : Tr n (add1 T x y) := by
  intro a b c ha hb hc h1 h2
  rw [add1_iff] at h1 h2 ⊢
  have no : ∀ {b}, b < n → (b = y ∨ T y b = true) → (b = x ∨ T b x = true) → False := by
    intro b hb p q
    rcases p with rfl | p <;> rcases q with rfl | q
    · exact hne rfl
    · rw [hyx] at q; cases q
    · rw [hyx] at p; cases p
    · have := tT y b x hy hb hx p q
      rw [hyx] at this; cases this
  rcases h1 with h1 | ⟨p1, q1⟩
  · rcases h2 with h2 | ⟨p2, q2⟩
    · exact .inl (tT a b c ha hb hc h1 h2)
    · refine .inr ⟨.inr ?_, q2⟩
      rcases p2 with rfl | p2
      · exact h1
      · exact tT a b x ha hb hx h1 p2
  · rcases h2 with h2 | ⟨p2, q2⟩
    · refine .inr ⟨p1, .inr ?_⟩
      rcases q1 with rfl | q1
      · exact h2
      · exact tT y b c hy hb hc q1 h2
    · exact (no hb q1 p2).elim
theorem add1_irr {n x y : Nat} {T : Tb} (tT : Tr n T) (iT : Irr n T) (hx : x < n) (hy : y < n) (hne : x ≠ y) (hyx : T y x = false) : Irr n (add1 T x y) := by
  intro a ha
  cases e : add1 T x y a a with
  | false => rfl
  | true =>
    rw [add1_iff] at e
    rcases e with e | ⟨p, q⟩
    · rw [iT a ha] at e; cases e
    · rcases p with rfl | p <;> rcases q with rfl | q
      · exact absurd rfl hne
      · rw [hyx] at q; cases q
      · rw [hyx] at p; cases p
      · have := tT y a x hy ha hx q p
        rw [hyx] at this; cases this
theorem add1_bd {n x y : Nat} {T : Tb} (hx : x < n) (hy : y < n) : Bd n (prs n T ++ [(x, y)]) := fun p hp => by
  rcases List.mem_append.mp hp with h | h
  · exact prs_bd p h
  · have : p = (x, y) := by simpa using h
    subst this; exact ⟨hx, hy⟩
theorem add1_clo {n x y : Nat} {T : Tb} (tT : Tr n T) (hx : x < n) (hy : y < n) (hne : x ≠ y) (hyx : T y x = false) {a b : Nat} (ha : a < n) (hb : b < n) : clo n (prs n T ++ [(x, y)]) a b = add1 T x y a b := by
  have hbd : Bd n (prs n T ++ [(x, y)]) := add1_bd hx hy
  rw [Bool.eq_iff_iff]
  constructor
  · intro e
    exact (clo_least (R := fun a b => a < n ∧ b < n ∧ add1 T x y a b = true) hbd (fun p hp => by
      refine ⟨(hbd p hp).1, (hbd p hp).2, add1_iff.mpr ?_⟩
      rcases List.mem_append.mp hp with h | h
      · exact .inl (mem_prs.mp (show (p.1, p.2) ∈ prs n T from h)).2.2
      · have : p = (x, y) := by simpa using h
        subst this; exact .inr ⟨.inl rfl, .inl rfl⟩) (fun a m b h1 h2 => ⟨h1.1, h2.2.1, add1_tr tT hx hy hne hyx a m b h1.1 h1.2.1 h2.2.1 h1.2.2 h2.2.2⟩) e).2.2
  · intro e
    have b1 : ∀ {u v}, u < n → v < n → T u v = true → clo n (prs n T ++ [(x, y)]) u v = true := fun hu hv h =>
      clo_base hbd (p := (_, _)) (List.mem_append_left _ (mem_prs.mpr ⟨hu, hv, h⟩))
    have b2 : clo n (prs n T ++ [(x, y)]) x y = true := clo_base hbd (p := (x, y)) (by simp)
    rcases add1_iff.mp e with e | ⟨p, q⟩
    · exact b1 ha hb e
    · have c1 : clo n (prs n T ++ [(x, y)]) a y = true := by
        rcases p with rfl | p
        · exact b2
        · exact clo_trans hbd (b1 ha hx p) b2
      rcases q with rfl | q
      · exact c1
      · exact clo_trans hbd c1 (b1 hy hb q)
theorem add1_fit {n x y : Nat} {T : Tb} {r : List Nat} (tT : Tr n T) (iT : Irr n T) (hx : x < n) (hy : y < n) (hne : x ≠ y) (hyx : T y x = false) (h : Pm n r) : fitB (add1 T x y) r = (fitB T r && bef r x y) := by
  rw [Bool.eq_iff_iff, Bool.and_eq_true, fit_idx (add1_irr tT iT hx hy hne hyx) h, fit_idx iT h]
  constructor
  · intro q
    exact ⟨fun u v hu hv e => q u v hu hv (add1_iff.mpr (.inl e)), q x y hx hy (add1_iff.mpr (.inr ⟨.inl rfl, .inl rfl⟩))⟩
  · rintro ⟨q1, q2⟩ u v hu hv e
    have le1 : (u = x ∨ T u x = true) → r.idxOf u ≤ r.idxOf x := fun p => by
      rcases p with rfl | p
      · exact Nat.le_refl _
      · exact Nat.le_of_lt (by simpa [bef] using q1 u x hu hx p)
    have le2 : (v = y ∨ T y v = true) → r.idxOf y ≤ r.idxOf v := fun p => by
      rcases p with rfl | p
      · exact Nat.le_refl _
      · exact Nat.le_of_lt (by simpa [bef] using q1 y v hy hv p)
    rcases add1_iff.mp e with e | ⟨p, q⟩
    · exact q1 u v hu hv e
    · have h0 : r.idxOf x < r.idxOf y := by simpa [bef] using q2
      have := le1 p
      have := le2 q
      unfold bef
      exact decide_eq_true (by omega)
theorem add1_cmp {n x y : Nat} {T : Tb} (tT : Tr n T) (iT : Irr n T) (hx : x < n) (hy : y < n) (hne : x ≠ y) (hyx : T y x = false) : cmp n (add1 T x y) n 0 = (cmp n T n 0).filter fun r => bef r x y := by
  rw [← rwP_fit (add1_irr tT iT hx hy hne hyx), ← rwP_fit iT, List.filter_filter]
  refine List.filter_congr fun r hr => ?_
  rw [add1_fit tT iT hx hy hne hyx (rwP_pm hr), Bool.and_comm]
theorem cmp_ex {n : Nat} {T : Tb} (tT : Tr n T) (iT : Irr n T) : ∀ {m F : Nat}, bits n F + m = n → ∃ s, s ∈ cmp n T m F
  | 0, F, _ => ⟨[], by simp [cmp]⟩
  | m + 1, F, h => by
    have hne : ((List.range n).filter fun x => !F.testBit x) ≠ [] := by
      intro e
      have h1 : ((List.range n).filter F.testBit).length = n := by
        rw [List.filter_eq_self.mpr ?_, List.length_range]
        intro a ha
        have := List.filter_eq_nil_iff.mp e a ha
        simpa using this
      unfold bits at h
      omega
    obtain ⟨a, ha, hmin⟩ := minimal_ex tT iT (r := (List.range n).filter fun x => !F.testBit x) (fun z hz => List.mem_range.mp (List.mem_filter.mp hz).1) hne
    obtain ⟨ha1, ha2⟩ := List.mem_filter.mp ha
    have hal := List.mem_range.mp ha1
    have hF : F.testBit a = false := by simpa using ha2
    have hfl : a ∈ fl n T F := mem_fl.mpr ⟨hal, hF, fun z hz e => by
      cases hb : F.testBit z with
      | true => rfl
      | false =>
        have := hmin z (List.mem_filter.mpr ⟨List.mem_range.mpr hz, by simp [hb]⟩)
        rw [this] at e; cases e⟩
    obtain ⟨s, hs⟩ := cmp_ex tT iT (m := m) (F := pt F a) (by rw [bits_pt hal hF]; omega)
    exact ⟨a :: s, cmp_cons.mpr ⟨hfl, hs⟩⟩
theorem ways_against {n x y : Nat} {T : Tb} (tT : Tr n T) (iT : Irr n T) (hx : x < n) (hy : y < n) (hne : x ≠ y) (hxy : T x y = false) : ∃ r ∈ cmp n T n 0, bef r x y = false := by
  obtain ⟨s, hs⟩ := cmp_ex (add1_tr tT hy hx (Ne.symm hne) hxy) (add1_irr tT iT hy hx (Ne.symm hne) hxy) (m := n) (F := 0) (by rw [bits_zero]; omega)
  rw [add1_cmp tT iT hy hx (Ne.symm hne) hxy] at hs
  obtain ⟨h1, h2⟩ := List.mem_filter.mp hs
  refine ⟨s, h1, ?_⟩
  have h3 : s.idxOf y < s.idxOf x := by simpa [bef] using h2
  unfold bef
  exact decide_eq_false (by omega)
def cmT (L : List (List Nat)) : Tb := fun x y => decide (x ≠ y) && L.all fun r => bef r x y
theorem cmT_iff {L : List (List Nat)} {x y : Nat} : cmT L x y = true ↔ x ≠ y ∧ ∀ r ∈ L, r.idxOf x < r.idxOf y := by
  unfold cmT bef
  simp
theorem cmT_tr {n : Nat} {L : List (List Nat)} (hL : L ≠ []) : Tr n (cmT L) := by
  intro a b c _ _ _ h1 h2
  rw [cmT_iff] at h1 h2 ⊢
  obtain ⟨r, hr⟩ := List.exists_mem_of_ne_nil L hL
  have l1 := h1.2 r hr
  have l2 := h2.2 r hr
  exact ⟨fun e => by subst e; omega, fun r hr => Nat.lt_trans (h1.2 r hr) (h2.2 r hr)⟩
theorem cmT_irr {n : Nat} {L : List (List Nat)} : Irr n (cmT L) := fun x _ => by simp [cmT]
theorem cmT_all {n : Nat} {T : Tb} (tT : Tr n T) (iT : Irr n T) {a b : Nat} (ha : a < n) (hb : b < n) : cmT (cmp n T n 0) a b = T a b := by
  rw [Bool.eq_iff_iff, cmT_iff]
  constructor
  · rintro ⟨h1, h2⟩
    cases e : T a b with
    | true => rfl
    | false =>
      obtain ⟨r, hr, h3⟩ := ways_against tT iT ha hb h1 e
      have := h2 r hr
      simp [bef] at h3
      omega
  · intro e
    refine ⟨fun h => ?_, fun r hr => ?_⟩
    · subst h; rw [iT a ha] at e; cases e
    · obtain ⟨hp, hf⟩ := cmp_pm iT hr
      simpa [bef] using (fit_idx iT hp).mp hf a b ha hb e
end DC
namespace DC
open PySem L2 DL
end DC
namespace DC
open PySem L2 DL
def plc0 (n : Nat) (s : Nat → Nat) (m : Nat) : Nat := ((List.range n).find? fun x => decide (s x = m)).getD 0
def bndR (n : Nat) (s : Nat → Nat) (x y : Nat) : Int := if (s x &&& s y) ∈ (List.range n).map s then (plc0 n s (s x &&& s y) : Int) else -1
end DC
namespace DC
open PySem L2 DL
def upm (n : Nat) (T : Tb) (x : Nat) : Nat := mask n fun y => decide (x = y) || T x y
def dnm (n : Nat) (T : Tb) (y : Nat) : Nat := mask n fun x => decide (x = y) || T x y
def IsLat (n : Nat) (T : Tb) : Prop := 0 < n ∧ (∀ x, x < n → ∀ y, y < n → bndR n (upm n T) x y ≠ -1) ∧ ∀ x, x < n → ∀ y, y < n → bndR n (dnm n T) x y ≠ -1
end DC
namespace DC
open PySem L2 DL
end DC
namespace DC
open PySem L2 DL
def le (T : Tb) (x y : Nat) : Bool := decide (x = y) || T x y
theorem le_refl {T : Tb} {x : Nat} : le T x x = true := by simp [le]
theorem le_of {T : Tb} {x y : Nat} (h : T x y = true) : le T x y = true := by simp [le, h]
theorem le_iff {T : Tb} {x y : Nat} : le T x y = true ↔ x = y ∨ T x y = true := by simp [le]
theorem le_trans {n : Nat} {T : Tb} (tT : Tr n T) {a b c : Nat} (ha : a < n) (hb : b < n) (hc : c < n) (h1 : le T a b = true) (h2 : le T b c = true) : le T a c = true := by
  rcases le_iff.mp h1 with rfl | h1'
  · exact h2
  rcases le_iff.mp h2 with rfl | h2'
  · exact h1
  exact le_of (tT a b c ha hb hc h1' h2')
def jn (n : Nat) (T : Tb) (x y : Nat) : Nat := (bndR n (upm n T) x y).toNat
def mt (n : Nat) (T : Tb) (x y : Nat) : Nat := (bndR n (dnm n T) x y).toNat
end DC
namespace DC
open PySem L2 DL
end DC
namespace DC
open PySem L2 DL
end DC
namespace DC
open PySem L2 DL
end DC
namespace DC
open PySem L2 DL
theorem set_same {ρ : DL.Env} {i : Nat} {o : Option D} (h : ρ[i]? = some o) : ρ.set i o = ρ := by
  apply List.ext_getElem?
  intro m
  by_cases q : i = m
  · subst q; rw [get_set_self (List.getElem?_eq_some_iff.mp h).1, h]
  · rw [get_set_ne q]
theorem w_fz {fa : DL.Env → Out D} {ρ : DL.Env} {d : D} (h : fa ρ = .ok d ρ) : dFz fa ρ = .ok (frz d) ρ := by
  apply out_eq
  rw [w_Fz, h]
  exact ⟨rfl, rfl⟩
end DC
namespace DC
open PySem L2 DL
theorem ag2 {fa fb : DL.Env → Out D} {ρ : DL.Env} {a b : D} (ha : fa ρ = .ok a ρ) (hb : fb ρ = .ok b ρ) : dACons fa (dACons fb dANil) ρ = .ok [.d a, .d b] ρ := by
  apply out_eq
  rw [w_ACons, ha, wo_ok, w_ACons, hb, wo_ok, w_ANil]
  exact ⟨rfl, rfl⟩
theorem neN {f g : DL.Env → Out D} {ρ : DL.Env} {a b : Nat} (hf : f ρ = .ok (natD a) ρ) (hg : g ρ = .ok (natD b) ρ) : dB (dOp2 gNe f g) ρ = .ok (!decide (a = b)) ρ := by
  apply out_eq
  rw [w_B, w_Op2, hf, wo_ok, hg, wo_ok]
  simp [natD]
  by_cases e : a = b
  · simp [e]
  · have : ¬ (a : Int) = b := by omega
    simp [e, this]
theorem andE {f g : DL.Env → Out Bool} {ρ : DL.Env} {a b : Bool} (hf : f ρ = .ok a ρ) (hg : a = true → g ρ = .ok b ρ) : dAndT f g ρ = .ok (a && b) ρ := by
  apply out_eq
  rw [w_AndT, hf, wo_ok]
  cases a with
  | false => rw [if_neg (by decide)]; exact ⟨rfl, rfl⟩
  | true => rw [if_pos rfl, hg rfl, wo_ok]; exact ⟨by simp, rfl⟩
theorem orE {f g : DL.Env → Out Bool} {ρ : DL.Env} {a b : Bool} (hf : f ρ = .ok a ρ) (hg : a = false → g ρ = .ok b ρ) : dOrT f g ρ = .ok (a || b) ρ := by
  apply out_eq
  rw [w_OrT, hf, wo_ok]
  cases a with
  | false => rw [if_neg (by decide), hg rfl, wo_ok]; exact ⟨by simp, rfl⟩
  | true => rw [if_pos rfl]; exact ⟨rfl, rfl⟩
end DC
namespace DC
open PySem L2 DL
def itL (L : List Nat) (i : Nat) : Nat := L.getD i 0
structure Fam (L : List Nat) : Prop where
  nd : L.Nodup
  ne : L ≠ []
  lt : ∀ a ∈ L, a < 8
  cl : ∀ a ∈ L, ∀ b ∈ L, a &&& b ∈ L ∧ a ||| b ∈ L
theorem nodup_lt {n : Nat} : ∀ {l : List Nat}, l.Nodup → (∀ x ∈ l, x < n) → l.length ≤ n := by
  induction n with
  | zero =>
    intro l _ h
    cases l with
    | nil => exact Nat.le_refl _
    | cons x l => exact absurd (h x (by simp)) (Nat.not_lt_zero _)
  | succ n ih =>
    intro l nd h
    have h1 : (l.erase n).length ≤ n := ih (nd.erase n) fun x hx => by
      have h2 := List.mem_of_mem_erase hx
      have h3 : x ≠ n := fun e => by
        subst e
        exact (List.Nodup.not_mem_erase nd) hx
      have := h x h2
      omega
    have h2 : l.length ≤ (l.erase n).length + 1 := by
      rw [List.length_erase]
      split <;> omega
    omega
structure LatOk (n : Nat) (ps : List (Nat × Nat)) : Prop where
  bd : Bd n ps
  ir : Irr n (clo n ps)
  la : IsLat n (clo n ps)
  hn : n ≤ 20
  hl : ps.length ≤ 1000
end DC
namespace DC
open PySem L2 DL
end DC
namespace DC
open PySem L2 DL
end DC
namespace DC
open PySem L2 DL
end DC
namespace DC
open PySem L2 DL
end DC
namespace DC
open PySem L2 DL
def ins (l : List Nat) (x : Nat) : List Nat := if x ∈ l then l else l ++ [x]
structure Shp (l : List Nat) : Prop where
  ex : ∃ hd tl, l = hd ++ tl ∧ hd.length ≤ 3 ∧ hd ≠ [] ∧ tl.Nodup
  lt : ∀ x ∈ l, x < 8
end DC
namespace DC
open PySem L2 DL
instance {n : Nat} {ps : List (Nat × Nat)} : Decidable (Bd n ps) := inferInstanceAs (Decidable (∀ p ∈ ps, p.1 < n ∧ p.2 < n))
end DC
namespace DC
open PySem L2 DL
theorem neNN {f g : DL.Env → Out D} {ρ : DL.Env} {a : Nat} (hf : f ρ = .ok (natD a) ρ) (hg : g ρ = .ok (natD a) ρ) : dB (dOp2 gNe f g) ρ = .ok false ρ := by
  rw [neN hf hg]
  simp
theorem neBB {f g : DL.Env → Out D} {ρ : DL.Env} {a : Bool} (hf : f ρ = .ok (.a (.bl a)) ρ) (hg : g ρ = .ok (.a (.bl a)) ρ) : dB (dOp2 gNe f g) ρ = .ok false ρ := by
  apply out_eq
  rw [w_B, w_Op2, hf, wo_ok, hg, wo_ok]
  cases a <;> exact ⟨rfl, rfl⟩
theorem if_no {Q : Ps} {t : DL.Env → Out Bool} {f g : DL.Env → Fl} {ρ : DL.Env} (h : t ρ = .ok false ρ) (k : WP Q (g ρ)) : WP Q (dIf t f g ρ) := by
  rw [p_If, h, wo_ok, if_neg (by decide)]
  exact k
theorem or_no {f g : DL.Env → Out Bool} {ρ : DL.Env} (hf : f ρ = .ok false ρ) (hg : g ρ = .ok false ρ) : dOrT f g ρ = .ok false ρ := orE hf fun _ => hg
theorem andV {f g : DL.Env → Out D} {ρ : DL.Env} {b : Bool} (hf : f ρ = .ok (.a (.bl true)) ρ) (hg : g ρ = .ok (.a (.bl b)) ρ) : dAndV f g ρ = .ok (.a (.bl b)) ρ := by
  apply out_eq
  rw [w_AndV, hf, wo_ok]
  rw [asB_bl, if_pos rfl, hg, wo_ok]
  exact ⟨rfl, rfl⟩
theorem bE {f : DL.Env → Out D} {ρ : DL.Env} {b : Bool} (hf : f ρ = .ok (.a (.bl b)) ρ) : dB f ρ = .ok b ρ := by
  apply out_eq
  rw [w_B, hf, wo_ok]
  exact ⟨rfl, rfl⟩
theorem notE {f : DL.Env → Out Bool} {ρ : DL.Env} {b : Bool} (hf : f ρ = .ok b ρ) : dNotT f ρ = .ok (!b) ρ := by
  apply out_eq
  rw [w_NotT, hf, wo_ok]
  exact ⟨rfl, rfl⟩
end DC
namespace DC
open PySem L2 DL
def Pt (n : Nat) (c : Nat → Nat) : Prop := ∀ x, x < n → c x ≤ x ∧ c (c x) = c x
def Ref (n : Nat) (c d : Nat → Nat) : Prop := ∀ a b, a < n → b < n → c a = c b → d a = d b
def Con (n : Nat) (T : Tb) (c : Nat → Nat) : Prop := ∀ x y z, x < n → y < n → z < n → c x = c y → c (jn n T x z) = c (jn n T y z) ∧ c (mt n T x z) = c (mt n T y z)
section
variable {n : Nat} {T : Tb} (tT : Tr n T) (iT : Irr n T) (L : IsLat n T)
include tT iT L
end
structure Pas (n : Nat) (T : Tb) (c c' : Nat → Nat) : Prop where
  pt : Pt n c'
  le : ∀ z, z < n → c' z ≤ c z
  gr : Ref n c c'
  rf : ∀ d, Con n T d → Ref n c d → Ref n c' d
section
variable {n : Nat} {T : Tb} (tT : Tr n T) (iT : Irr n T) (L : IsLat n T)
include tT iT L
end
structure Lst (n : Nat) (T : Tb) (ps : List (Nat × Nat)) (c : Nat → Nat) : Prop where
  pt : Pt n c
  con : Con n T c
  has : ∀ p ∈ ps, c p.1 = c p.2
  le : ∀ d, Con n T d → (∀ p ∈ ps, d p.1 = d p.2) → Ref n c d
end DC
namespace DC
open PySem L2 DL
theorem ag3 {fa fb fc : DL.Env → Out D} {ρ : DL.Env} {a b c : D} (ha : fa ρ = .ok a ρ) (hb : fb ρ = .ok b ρ) (hc : fc ρ = .ok c ρ) : dACons fa (dACons fb (dACons fc dANil)) ρ = .ok [.d a, .d b, .d c] ρ := by
  apply out_eq
  rw [w_ACons, ha, wo_ok, w_ACons, hb, wo_ok, w_ACons, hc, wo_ok, w_ANil]
  exact ⟨rfl, rfl⟩
end DC
namespace DC
open PySem L2 DL
section
variable {n : Nat} {T : Tb} (tT : Tr n T) (iT : Irr n T) (L : IsLat n T)
include tT iT L
end
def pl : Nat → List (List Nat)
  | 0 => [[]]
  | x + 1 => (pl x).flatMap fun h => ((List.range (x + 1)).filter fun k => decide (k = x) || decide (itL h k = k)).map fun k => h ++ [k]
end DC
namespace DC
open PySem L2 DL
abbrev Ow := List (Nat × Nat)
def oAt : Ow → Nat → Option Nat
  | [], _ => none
  | p :: m, y => if p.1 = y then some p.2 else oAt m y
def TOk (R : Nat) (T : List Nat) : Prop := T.Nodup ∧ ∀ y ∈ T, y < R
structure Fails (G : Nat → List Nat) (m : Ow) (R : Nat) (T T' : List Nat) : Prop where
  ok : TOk R T'
  sub : ∀ y ∈ T, y ∈ T'
  len : T.length ≤ T'.length
  own : ∀ y ∈ T', y ∉ T → ∃ z, oAt m y = some z ∧ ∀ y' ∈ G z, y' ∈ T'
theorem Fails.refl {G : Nat → List Nat} {m : Ow} {R : Nat} {T : List Nat} (h : TOk R T) : Fails G m R T T := ⟨h, fun _ m => m, Nat.le_refl _, fun y a b => absurd a b⟩
structure Augs (G : Nat → List Nat) (m : Ow) (T : List Nat) (x : Nat) (m' : Ow) : Prop where
  same : ∀ y ∈ T, oAt m' y = oAt m y
  new : ∃ y, y ∉ T ∧ oAt m' y = some x
  edge : ∀ y z, oAt m' y = some z → y ∈ G z
  stay : ∀ y z, oAt m y = some z → ∃ y', oAt m' y' = some z
  keys : ∀ y, oAt m y ≠ none → oAt m' y ≠ none
  vals : ∀ y z, y ∉ T → oAt m' y = some z → z = x ∨ ∃ y', y' ∉ T ∧ oAt m y' = some z
  inj : ∀ y y' z, y ∉ T → y' ∉ T → oAt m' y = some z → oAt m' y' = some z → y = y'
def OInj (m : Ow) : Prop := ∀ y y' z, oAt m y = some z → oAt m y' = some z → y = y'
def OClo (G : Nat → List Nat) (m : Ow) (B : Nat → Prop) : Prop := ∀ y, B y → ∃ z, oAt m y = some z ∧ ∀ y' ∈ G z, B y'
structure MOk (G : Nat → List Nat) (k : Nat) (m : Ow) : Prop where
  inj : OInj m
  edge : ∀ y z, oAt m y = some z → y ∈ G z
  low : ∀ y z, oAt m y = some z → z < k
  clo : ∃ B : Nat → Prop, OClo G m B ∧ ∀ x, x < k → (∃ y, oAt m y = some x) ∨ ∀ y ∈ G x, B y
end DC
namespace DC
open PySem L2 DL
end DC
namespace DC
open PySem L2 DL
theorem ag1 {fa : DL.Env → Out D} {ρ : DL.Env} {a : D} (ha : fa ρ = .ok a ρ) : dACons fa dANil ρ = .ok [.d a] ρ := by
  apply out_eq
  rw [w_ACons, ha, wo_ok, w_ANil]
  exact ⟨rfl, rfl⟩
theorem callE {F : List D → FR} {g : DL.Env → Out (List Ag)} {ρ : DL.Env} {ds : List D} {d : D} {k : Nat} (hg : g ρ = .ok (ds.map Ag.d) ρ) (hf : isFL ds = true) (hk : ds.length = k) (hF : F ds = .rt d none) : dCall k F g ρ = .ok d ρ := by
  apply out_eq
  rw [w_Call, hg, wo_ok]
  have e : agL (ds.map Ag.d) = some ds := by
    clear hg hf hk hF
    induction ds with
    | nil => rfl
    | cons a l ih => rw [List.map_cons, agL, ih]; rfl
  rw [e, so_some, frzL_isFL _ hf, hF]
  exact ⟨hk, rfl, rfl⟩
theorem call1 {F : List D → FR} {fa : DL.Env → Out D} {ρ : DL.Env} {a d : D} (ha : fa ρ = .ok a ρ) (h1 : isF a = true) (hF : F [a] = .rt d none) : dCall 1 F (dACons fa dANil) ρ = .ok d ρ := callE (ds := [a]) (ag1 ha) (by simp [isFL, h1]) rfl hF
theorem call2 {F : List D → FR} {fa fb : DL.Env → Out D} {ρ : DL.Env} {a b d : D} (ha : fa ρ = .ok a ρ) (hb : fb ρ = .ok b ρ) (h1 : isF a = true) (h2 : isF b = true) (hF : F [a, b] = .rt d none) : dCall 2 F (dACons fa (dACons fb dANil)) ρ = .ok d ρ := callE (ds := [a, b]) (ag2 ha hb) (by simp [isFL, h1, h2]) rfl hF
theorem call3 {F : List D → FR} {fa fb fc : DL.Env → Out D} {ρ : DL.Env} {a b c d : D} (ha : fa ρ = .ok a ρ) (hb : fb ρ = .ok b ρ) (hc : fc ρ = .ok c ρ) (h1 : isF a = true) (h2 : isF b = true) (h3 : isF c = true) (hF : F [a, b, c] = .rt d none) : dCall 3 F (dACons fa (dACons fb (dACons fc dANil))) ρ = .ok d ρ := callE (ds := [a, b, c]) (ag3 ha hb hc) (by simp [isFL, h1, h2, h3]) rfl hF
theorem cE {x : At} {ρ : DL.Env} : dC x ρ = .ok (.a x) ρ := rfl
theorem uE {g : D → Option D} {f : DL.Env → Out D} {ρ : DL.Env} {a d : D} (hf : f ρ = .ok a ρ) (h : ∀ P : D → Prop, SO (g a) P = P d) : dU g f ρ = .ok d ρ := by
  apply out_eq
  rw [w_U, hf, wo_ok, h]
  exact ⟨rfl, rfl⟩
theorem op2E {g : D → D → Option D} {f1 f2 : DL.Env → Out D} {ρ : DL.Env} {a b d : D} (h1 : f1 ρ = .ok a ρ) (h2 : f2 ρ = .ok b ρ) (h : ∀ P : D → Prop, SO (g a b) P = P d) : dOp2 g f1 f2 ρ = .ok d ρ := by
  apply out_eq
  rw [w_Op2, h1, wo_ok, h2, wo_ok, h]
  exact ⟨rfl, rfl⟩
theorem andVE {f g : DL.Env → Out D} {ρ : DL.Env} {a b : Bool} (hf : f ρ = .ok (.a (.bl a)) ρ) (hg : g ρ = .ok (.a (.bl b)) ρ) : dAndV f g ρ = .ok (.a (.bl (a && b))) ρ := by
  apply out_eq
  rw [w_AndV, hf, wo_ok, asB_bl]
  cases a with
  | true => rw [if_pos rfl, hg, wo_ok]; exact ⟨rfl, rfl⟩
  | false => rw [if_neg (by decide)]; exact ⟨rfl, rfl⟩
end DC
namespace DC
open PySem L2 DL
theorem forL_cons {Q : Ps} {g : D → DL.Env → Option DL.Env} {f : DL.Env → Fl} {d : D} {ds : List D} {ρ : DL.Env} (h : SO (g d ρ) fun ρ1 => WP ⟨fun ρ2 => WP Q (forL g f ds ρ2), Q.rt, Q.nx, fun ρ2 => WP Q (forL g f ds ρ2), Q.ex⟩ (f ρ1)) : WP Q (forL g f (d :: ds) ρ) := by
  unfold forL
  cases e : g d ρ with
  | none => rw [e] at h; exact h.elim
  | some ρ1 =>
    rw [e, so_some] at h
    dsimp only
    cases e1 : f ρ1 <;> rw [e1] at h <;> exact h
def OLow (n : Nat) (m : Ow) : Prop := ∀ y z, oAt m y = some z → z < n
end DC
set_option pp.maxSteps 1500
namespace DC
open PySem L2 DL
def mv (m : Ow) : Nat → Nat → Int
  | 0, _ => -1
  | k + 1, x => if oAt m k = some x then (k : Int) else mv m k x
theorem mv_cases {m : Ow} (hi : OInj m) : ∀ {k x : Nat}, (∃ y, y < k ∧ oAt m y = some x ∧ mv m k x = (y : Int)) ∨ ((∀ y, y < k → oAt m y ≠ some x) ∧ mv m k x = -1)
  | 0, x => .inr ⟨fun y h => absurd h (Nat.not_lt_zero y), rfl⟩
  | k + 1, x => by
    rw [mv]
    by_cases e : oAt m k = some x
    · rw [if_pos e]
      exact .inl ⟨k, Nat.lt_succ_self k, e, rfl⟩
    · rw [if_neg e]
      rcases mv_cases hi (k := k) (x := x) with ⟨y, h1, h2, h3⟩ | ⟨h1, h2⟩
      · exact .inl ⟨y, Nat.lt_succ_of_lt h1, h2, h3⟩
      · refine .inr ⟨fun y hy => ?_, h2⟩
        rcases Nat.lt_succ_iff_lt_or_eq.mp hy with q | q
        · exact h1 y q
        · subst q; exact e
end DC
set_option pp.maxSteps 1500
namespace DC
open PySem L2 DL
structure CovI (G : Nat → List Nat) (m : Ow) (n R : Nat) (B : Nat → Prop) (at' : Nat) (rs : List Nat) (F : Nat) : Prop where
  nd : rs.Nodup
  lt : ∀ x ∈ rs, x < n
  free : ∀ x, x < n → (∀ y, oAt m y ≠ some x) → x ∈ rs
  hit : ∀ x ∈ rs, (∀ y, oAt m y ≠ some x) ∨ ∃ y, F.testBit y = true ∧ oAt m y = some x
  done : ∀ i x, i < at' → rs[i]? = some x → ∀ y ∈ G x, F.testBit y = true
  own : ∀ y, F.testBit y = true → y < R ∧ ∃ x ∈ rs, oAt m y = some x
  bad : ∀ x ∈ rs, ∀ y ∈ G x, B y
end DC
set_option pp.maxSteps 1500
namespace DC
open PySem L2 DL
structure Cov (G : Nat → List Nat) (m : Ow) (n R : Nat) (rs : List Nat) (F : Nat) : Prop where
  nd : rs.Nodup
  lt : ∀ x ∈ rs, x < n
  free : ∀ x, x < n → (∀ y, oAt m y ≠ some x) → x ∈ rs
  hit : ∀ x ∈ rs, (∀ y, oAt m y ≠ some x) ∨ ∃ y, F.testBit y = true ∧ oAt m y = some x
  done : ∀ x ∈ rs, ∀ y ∈ G x, F.testBit y = true
  own : ∀ y, F.testBit y = true → y < R ∧ ∃ x ∈ rs, oAt m y = some x
end DC
namespace DC
open PySem L2 DL
theorem map_nodup {α β : Type} {f : α → β} : ∀ {l : List α}, l.Nodup → (∀ x ∈ l, ∀ y ∈ l, f x = f y → x = y) → (l.map f).Nodup
  | [], _, _ => List.nodup_nil
  | a :: l, h, hi => by
    have h' := List.nodup_cons.mp h
    rw [List.map_cons]
    refine List.nodup_cons.mpr ⟨fun m => ?_, map_nodup h'.2 fun x hx y hy => hi x (List.mem_cons_of_mem _ hx) y (List.mem_cons_of_mem _ hy)⟩
    obtain ⟨b, hb, e⟩ := List.mem_map.mp m
    have := hi a List.mem_cons_self b (List.mem_cons_of_mem _ hb) e.symm
    subst this
    exact h'.1 hb
theorem mv_of {m : Ow} {R : Nat} (hi : OInj m) (hr : ∀ y z, oAt m y = some z → y < R) {x y : Nat} (h : oAt m y = some x) : mv m R x = (y : Int) := by
  rcases mv_cases hi (k := R) (x := x) with ⟨y0, h1, h2, h3⟩ | ⟨h1, h2⟩
  · rw [h3, hi y0 y x h2 h]
  · exact absurd h (h1 y (hr y x h))
theorem mv_pos {m : Ow} {R : Nat} (hi : OInj m) {x : Nat} (h : 0 ≤ mv m R x) : ∃ y, y < R ∧ oAt m y = some x ∧ mv m R x = (y : Int) := by
  rcases mv_cases hi (k := R) (x := x) with q | ⟨h1, h2⟩
  · exact q
  · omega
end DC
namespace DC
open PySem L2 DL
end DC
namespace DC
open PySem L2 DL
section
variable {w : Str} {a b : D}
end
end DC
namespace DC
open PySem L2 DL
end DC
namespace DC
open PySem L2 DL
section
variable {f g : DL.Env → Out D} {ρ : DL.Env} {A B : List (List Nat)} {l m : List Nat} {k : Nat}
end
section
variable {n : Nat} {T : Tb} {r : Bool} {s : List Nat} {Ps : List (List Nat)}
end
end DC
namespace DC
open PySem L2 DL
namespace Lg
section
variable {n : Nat} {T : Tb} {r : Nat → Nat}
end
end Lg
structure PapOk (n : Nat) (T : Tb) (s : List Nat) (Ps : List (List Nat)) : Prop where
  s1 : ascN n 0 s = true
  s2 : fits T true s = true
  p1 : ∀ p ∈ Ps, ascN n 0 p = true
  p2 : ∀ p ∈ Ps, p ≠ []
  p3 : ∀ p ∈ Ps, fits T false p = true
  fl : Ps.flatten.Perm (List.range n)
  len : Ps.length = s.length
  bd : s.length ≤ n
section
variable {n : Nat} {T : Tb} {r : Nat → Nat}
end
section
variable {n : Nat} {T : Tb} {s : List Nat} {Ps : List (List Nat)}
theorem PapOk.lt (h : PapOk n T s Ps) : ∀ p ∈ Ps, ∀ x ∈ p, x < n := fun p hp => ascN_lt (h.p1 p hp)
end
end DC
namespace DC
open PySem L2 DL
def pO (m : Ow) (R x : Nat) : Option Nat := if 0 ≤ mv m R x then some (mv m R x).toNat else none
theorem pO_iff {m : Ow} {R x y : Nat} (hi : OInj m) (hr : ∀ y z, oAt m y = some z → y < R) : pO m R x = some y ↔ oAt m y = some x := by
  unfold pO
  constructor
  · intro h
    split at h
    · rename_i e
      cases h
      obtain ⟨y0, h1, h2, h3⟩ := mv_pos hi e
      rw [h3, Int.toNat_natCast]
      exact h2
    · cases h
  · intro h
    have := mv_of (R := R) hi hr h
    rw [this, if_pos (by omega), Int.toNat_natCast]
structure Chn (nx : Nat → Option Nat) (x : Nat) (c : List Nat) : Prop where
  hd : c[0]? = some x
  lk : ∀ i y z, c[i]? = some y → c[i + 1]? = some z → nx y = some z
  lst : ∀ i y, c[i]? = some y → i + 1 = c.length → nx y = none
section
variable {nx : Nat → Option Nat} {x : Nat} {c : List Nat}
theorem Chn.succ (h : Chn nx x c) {y z : Nat} (hz : z ∈ c) (e : nx z = some y) : y ∈ c := by
  obtain ⟨i, hi, e1⟩ := List.mem_iff_getElem.mp hz
  have hz' : c[i]? = some z := by rw [List.getElem?_eq_getElem hi, e1]
  by_cases hl : i + 1 = c.length
  · rw [h.lst i z hz' hl] at e
    cases e
  · have hy : c[i + 1]? = some (c[i + 1]'(by omega)) := List.getElem?_eq_getElem _
    have := h.lk i _ _ hz' hy
    rw [e] at this
    cases this
    exact List.mem_of_getElem? hy
theorem link_pw {n : Nat} {T : Tb} (tT : Tr n T) : ∀ {c : List Nat}, (∀ x ∈ c, x < n) → (∀ i y z : Nat, c[i]? = some y → c[i + 1]? = some z → T y z = true) → c.Pairwise fun a b => T a b = true
  | [], _, _ => .nil
  | [a], _, _ => List.pairwise_singleton _ _
  | a :: b :: c, hn, hl => by
    have ih := link_pw tT (c := b :: c) (fun x hx => hn x (List.mem_cons_of_mem _ hx)) fun i y z h1 h2 => hl (i + 1) y z (by simpa using h1) (by simpa using h2)
    have ab := hl 0 a b rfl rfl
    refine List.pairwise_cons.mpr ⟨fun y hy => ?_, ih⟩
    rcases List.mem_cons.mp hy with q | q
    · subst q; exact ab
    · exact tT a b y (hn a List.mem_cons_self) (hn b (by simp)) (hn y (by simp [q])) ab ((List.pairwise_cons.mp ih).1 y q)
end
theorem pw_any {T : Tb} {l : List Nat} (hp : l.Pairwise fun a b => T a b = true) : ∀ x ∈ l, ∀ y ∈ l, x = y ∨ T x y = true ∨ T y x = true := by
  induction hp with
  | nil => intro x hx; cases hx
  | cons h1 _ ih =>
    intro x hx y hy
    rcases List.mem_cons.mp hx with rfl | hx'
    · rcases List.mem_cons.mp hy with rfl | hy'
      · exact .inl rfl
      · exact .inr (.inl (h1 y hy'))
    · rcases List.mem_cons.mp hy with rfl | hy'
      · exact .inr (.inr (h1 x hx'))
      · exact ih x hx' y hy'
structure Chs (n : Nat) (T : Tb) (m : Ow) (Cs : List (List Nat)) : Prop where
  hds : Cs.map (fun c => c.getD 0 0) = (List.range n).filter fun x => (oAt m x).isNone
  ch : ∀ c ∈ Cs, ∃ x, Chn (pO m n) x c
  lt : ∀ c ∈ Cs, ∀ x ∈ c, x < n
section
variable {n : Nat} {T : Tb} {m : Ow} {Cs : List (List Nat)} {r : Nat → Nat}
theorem Chs.pw (h : Chs n T m Cs) (tT : Tr n T) (hi : OInj m) (hr : ∀ y z, oAt m y = some z → y < n) (he : ∀ y z, oAt m y = some z → T z y = true) {c : List Nat} (hc : c ∈ Cs) : c.Pairwise fun a b => T a b = true := by
  obtain ⟨x, hx⟩ := h.ch c hc
  exact link_pw tT (h.lt c hc) fun i y z h1 h2 => he z y ((pO_iff hi hr).mp (hx.lk i y z h1 h2))
theorem Chs.cover (h : Chs n T m Cs) (hs : RankS n T r) (hi : OInj m) (hr : ∀ y z, oAt m y = some z → y < n) (hl : OLow n m) (he : ∀ y z, oAt m y = some z → T z y = true) : ∀ (k y : Nat), r y < k → y < n → ∃ c ∈ Cs, y ∈ c
  | 0, y, hk, _ => absurd hk (Nat.not_lt_zero _)
  | k + 1, y, hk, hy => by
    cases e : oAt m y with
    | none =>
      have : y ∈ (List.range n).filter fun x => (oAt m x).isNone := List.mem_filter.mpr ⟨List.mem_range.mpr hy, by rw [e]; rfl⟩
      rw [← h.hds] at this
      obtain ⟨c, hc, ec⟩ := List.mem_map.mp this
      obtain ⟨x, hx⟩ := h.ch c hc
      rw [List.getD_eq_getElem?_getD, hx.hd] at ec
      have ec : x = y := ec
      subst ec
      exact ⟨c, hc, List.mem_of_getElem? hx.hd⟩
    | some z =>
      have hz := hl y z e
      have := hs.lt y z hy hz (he y z e)
      obtain ⟨c, hc, zc⟩ := Chs.cover h hs hi hr hl he k z (by omega) hz
      obtain ⟨x, hx⟩ := h.ch c hc
      exact ⟨c, hc, hx.succ zc ((pO_iff hi hr).mpr e)⟩
theorem Chs.nd (h : Chs n T m Cs) (tT : Tr n T) (iT : Irr n T) (hi : OInj m) (hr : ∀ y z, oAt m y = some z → y < n) (he : ∀ y z, oAt m y = some z → T z y = true) {c : List Nat} (hc : c ∈ Cs) : c.Nodup :=
  List.Pairwise.imp_of_mem (fun {a b} ha hb hT e => by
    subst e
    rw [iT a (h.lt c hc a ha)] at hT
    cases hT) (h.pw tT hi hr he hc)
theorem Chs.le (h : Chs n T m Cs) (tT : Tr n T) (hs : RankS n T r) (hi : OInj m) (hr : ∀ y z, oAt m y = some z → y < n) (hl : OLow n m) (he : ∀ y z, oAt m y = some z → T z y = true) {S : List Nat} (hS : ∀ x ∈ S, x < n) (nd : S.Nodup) (ha : ∀ x ∈ S, ∀ y ∈ S, T x y = false) : S.length ≤ Cs.length := by
  have cv : ∀ x ∈ S, ∃ c ∈ Cs, x ∈ c := fun x hx => h.cover hs hi hr hl he (r x + 1) x (Nat.lt_succ_self _) (hS x hx)
  have ix : ∀ x ∈ S, Cs.findIdx (fun c => decide (x ∈ c)) < Cs.length ∧ ∃ c, Cs[Cs.findIdx fun c => decide (x ∈ c)]? = some c ∧ c ∈ Cs ∧ x ∈ c := fun x hx => by
    obtain ⟨c, hc, xc⟩ := cv x hx
    have lt : Cs.findIdx (fun c => decide (x ∈ c)) < Cs.length := List.findIdx_lt_length_of_exists ⟨c, hc, by simpa using xc⟩
    refine ⟨lt, Cs[Cs.findIdx fun c => decide (x ∈ c)], List.getElem?_eq_getElem lt, List.getElem_mem lt, ?_⟩
    have := List.findIdx_getElem (xs := Cs) (p := fun c => decide (x ∈ c)) (w := lt)
    simpa using this
  have nd2 : (S.map fun x => Cs.findIdx fun c => decide (x ∈ c)).Nodup := by
    refine map_nodup nd fun x hx y hy e => ?_
    obtain ⟨_, c, c1, c2, c3⟩ := ix x hx
    obtain ⟨_, d, d1, d2, d3⟩ := ix y hy
    have e : Cs.findIdx (fun c => decide (x ∈ c)) = Cs.findIdx fun c => decide (y ∈ c) := e
    rw [e, d1] at c1
    cases c1
    rcases pw_any (h.pw tT hi hr he c2) x c3 y d3 with q | q | q
    · exact q
    · rw [ha x hx y hy] at q; cases q
    · rw [ha y hy x hx] at q; cases q
  have := nodup_lt nd2 fun i hi' => by
    obtain ⟨x, hx, e⟩ := List.mem_map.mp hi'
    have := (ix x hx).1
    rw [← e]
    exact this
  rwa [List.length_map] at this
end
end DC
set_option pp.maxSteps 1500
namespace DC
open PySem L2 DL
structure MOrd (n : Nat) (T : Tb) (m : Ow) : Prop where
  inj : OInj m
  rt : ∀ y z, oAt m y = some z → y < n
  low : OLow n m
  rel : ∀ y z, oAt m y = some z → T z y = true
end DC
set_option pp.maxSteps 1500
namespace DC
open PySem L2 DL
structure Und (n : Nat) (m : Ow) (x : Nat) (c : List Nat) : Prop where
  hd : c[0]? = some x
  lk : ∀ i y z, c[i]? = some y → c[i + 1]? = some z → pO m n y = some z
  lt : ∀ y ∈ c, y < n
theorem Und.len {n x : Nat} {T : Tb} {m : Ow} {c : List Nat} (h : Und n m x c) (tT : Tr n T) (iT : Irr n T) (o : MOrd n T m) : c.length ≤ n := by
  have pw := link_pw tT h.lt fun i y z h1 h2 => o.rel z y ((pO_iff o.inj o.rt).mp (h.lk i y z h1 h2))
  refine nodup_lt ?_ h.lt
  exact List.Pairwise.imp_of_mem (fun {a b} ha hb hT e => by
    subst e
    rw [iT a (h.lt a ha)] at hT
    cases hT) pw
end DC
namespace DC
open PySem L2 DL
structure PapW (n : Nat) (T : Tb) (s : List Nat) (Ps : List (List Nat)) : Prop where
  s1 : ascN n 0 s = true
  s2 : fits T false s = true
  p1 : ∀ p ∈ Ps, ascN n 0 p = true
  p2 : ∀ p ∈ Ps, p ≠ []
  p3 : ∀ p ∈ Ps, fits T true p = true
  fl : Ps.flatten.Perm (List.range n)
  len : Ps.length = s.length
  bd : s.length ≤ n
end DC
namespace DC
open PySem L2 DL
section
variable {n : Nat} {T : Tb} {s : List Nat} {Ps : List (List Nat)}
theorem PapW.lt (h : PapW n T s Ps) : ∀ p ∈ Ps, ∀ x ∈ p, x < n := fun p hp => ascN_lt (h.p1 p hp)
end
end DC
set_option pp.maxSteps 1500
namespace DC
open PySem L2 DL
def oD : Option Nat → D
  | none => .a (.int (-1))
  | some y => natD y
end DC
set_option pp.maxSteps 1500
namespace DC
open PySem L2 DL
def SB (s : List Nat) : Prop := s.length ≤ 50 ∧ ∀ x ∈ s, x < 50
def PB (Ps : List (List Nat)) : Prop := Ps.length ≤ 50 ∧ ∀ p ∈ Ps, SB p
end DC
set_option pp.maxSteps 1500
namespace DC
open PySem L2 DL
end DC
set_option pp.maxSteps 1500
namespace DC
open PySem L2 DL
theorem wo_exx {α : Type} {P : α → DL.Env → Prop} {o : Out α} (h : WO NoE P o) : ∃ d ρ, o = .ok d ρ ∧ P d ρ := by
  cases o with
  | ok d ρ => exact ⟨d, ρ, rfl, h⟩
  | ex e ρ => exact h.elim
  | st => exact h.elim
def SBk (k : Nat) (s : List Nat) : Prop := s.length ≤ k ∧ ∀ x ∈ s, x < 50
def PBk (k : Nat) (Ps : List (List Nat)) : Prop := Ps.length ≤ 50 ∧ ∀ p ∈ Ps, SBk k p
theorem SBk.mono {k m : Nat} {s : List Nat} (h : SBk k s) (hk : k ≤ m) : SBk m s := ⟨Nat.le_trans h.1 hk, h.2⟩
theorem PBk.mono {k m : Nat} {Ps : List (List Nat)} (h : PBk k Ps) (hk : k ≤ m) : PBk m Ps := ⟨h.1, fun p hp => (h.2 p hp).mono hk⟩
theorem src_any {ρ ρ' : DL.Env} {f : DL.Env → Out D} {m : Nat} (h : f ρ = .ok (natD m) ρ') (hm : m ≤ 1000) : dRng1 f ρ = .ok ((List.range m).map natD) ρ' := by
  unfold dRng1
  rw [h]
  show (if -1000000 ≤ (m : Int) ∧ (m : Int) ≤ 1000000 then Out.ok (intL 0 ((m : Int)).toNat) ρ' else .st) = _
  rw [if_pos (by omega), Int.toNat_natCast, intL_vec]
  rfl
end DC
set_option pp.maxSteps 1500
namespace DC
open PySem L2 DL
theorem w_lcM {α : Type} {E : Exn → DL.Env → Prop} {P : D → DL.Env → Prop} {ρ : DL.Env} {v : Nat} {src : DL.Env → Out (List D)} {t : DL.Env → Out Bool} {f : DL.Env → Out D} {l : List α} (enc : α → D) (tb : α → Bool) (fv : α → D) (hv : ∀ d, ρ[v]? = some (some d) → isF d = true) (hl : v < ρ.length) (hsrc : src ρ = .ok (l.map enc) ρ) (hc : l.length ≤ 1000000)
    (ht : ∀ x ∈ l, t (ρ.set v (some (enc x))) = .ok (tb x) (ρ.set v (some (enc x)))) (hf : ∀ x ∈ l, tb x = true → f (ρ.set v (some (enc x))) = .ok (fv x) (ρ.set v (some (enc x)))) (k : P (.lst true ((l.filter tb).map fv)) ρ) : WO E P (dLc [v] src (tg1 v) t f ρ) := by
  rw [w_Lc, hsrc]
  refine ⟨by rw [List.length_map]; exact hc, ?_⟩
  have hw : wipeE ρ [v] = ρ.set v none := rfl
  refine wo_lcK (fun i ys ρ' => ys = ((l.take i).filter tb).map fv ∧ ρ' = ρ.set v none) ⟨by simp, rfl⟩ ?_ ?_
  · intro i d ys ρ' hd h J hJ
    obtain ⟨rfl, rfl⟩ := h
    rw [List.getElem?_map] at hd
    obtain ⟨x, hx, rfl⟩ := Option.map_eq_some_iff.mp hd
    have hm := List.mem_of_getElem? hx
    rw [s_tg1]
    refine ⟨by rw [List.length_set]; exact hl, ?_⟩
    rw [List.set_set, ht x hm, wo_ok]
    cases e : tb x with
    | true =>
      rw [if_pos rfl, hf x hm e, wo_ok]
      refine hJ _ _ ⟨?_, by simp [wipeE]⟩
      rw [List.take_succ, hx, List.filter_append, List.map_append]
      simp [e]
    | false =>
      rw [if_neg (by decide)]
      refine hJ _ _ ⟨?_, by simp [wipeE]⟩
      rw [List.take_succ, hx, List.filter_append, List.map_append]
      simp [e]
  · rintro ys ρ' ⟨rfl, rfl⟩
    rw [List.length_map, List.take_length]
    have : wipeE (ρ.set v none) [v] = wipeE ρ [v] := by simp [wipeE]
    rw [this, back_same hv]
    exact k
theorem idx_natT {a : Nat} : ∀ {l : List Nat}, a ∈ l → firstEq (natD a) (l.map natD) = some (l.idxOf a)
  | [], h => by cases h
  | y :: ys, h => by
    have e : eqD (natD y) (natD a) = decide (y = a) := by
      simp [natD, eqD, eqA]
      rw [Bool.eq_iff_iff]
      simp
      omega
    rw [List.map_cons]
    unfold firstEq
    rw [e, List.idxOf_cons]
    by_cases q : y = a
    · subst q; simp
    · have hm : a ∈ ys := by
        rcases List.mem_cons.mp h with h | h
        · exact absurd h.symm q
        · exact h
      have q2 : (y == a) = false := by simpa using q
      rw [idx_natT hm]
      simp [q, q2]
theorem ixT_eq {x i j : Nat} {r : List Nat} {ρ : DL.Env} (hx : x ∈ r) (h1 : ρ[i]? = some (some (tupN r))) (h2 : ρ[j]? = some (some (natD x))) : dIndexT (dVar i) (dVar j) ρ = .ok (natD (r.idxOf x)) ρ := by
  have e : gIndexT (.n .tup false (r.map natD)) (natD x) = some (natD (r.idxOf x)) := by
    unfold gIndexT
    have p2 : pDL 60 (r.map natD) = true := pDL_all fun x hx => by
      obtain ⟨i, hi, rfl⟩ := List.mem_map.mp hx
      rfl
    dsimp only
    rw [if_pos ⟨rfl, p2⟩, idx_natT hx]
    rfl
  unfold dIndexT
  rw [var_eq h1 isF_tupN]
  show (match dVar j ρ with | .ok d2 ρ2 => (match gIndexT (.n .tup false (r.map natD)) d2 with | some d => Out.ok d ρ2 | none => .st) | .ex e ρ2 => .ex e ρ2 | .st => .st) = _
  rw [var_eq h2 rfl]
  show (match gIndexT (.n .tup false (r.map natD)) (natD x) with | some d => Out.ok d ρ | none => .st) = _
  rw [e]
abbrev rowsD (L : List (List Nat)) : D := .n .tup false (L.map tupN)
theorem isFL_rows {L : List (List Nat)} : isFL (L.map tupN) = true := isFL_map fun _ => isF_tupN
theorem isF_rows {L : List (List Nat)} : isF (rowsD L) = true := by simp [isFL_rows]
theorem rixN {L : List (List Nat)} {x : Nat} {r : List Nat} {P : D → Prop} (h : L[x]? = some r) : SO (gIx (rowsD L) (.a (.int (x : Int)))) P = P (tupN r) := by
  obtain ⟨hl, e⟩ := List.getElem?_eq_some_iff.mp h
  have h2 : L.map tupN = vec L.length fun i => tupN (L.getD i []) := by
    apply List.ext_getElem?
    intro i
    unfold vec
    rw [List.getElem?_map, List.getElem?_map]
    by_cases q : i < L.length
    · rw [List.getElem?_eq_getElem q, List.getElem?_range q]
      simp [List.getD_eq_getElem?_getD, q]
    · rw [List.getElem?_eq_none (by omega), List.getElem?_eq_none (by simp; omega)]
      rfl
  unfold rowsD
  rw [h2, so_ixTF hl isF_tupN, List.getD_eq_getElem?_getD, h]
  rfl
theorem src_rows {ρ : DL.Env} {f : DL.Env → Out D} {L : List (List Nat)} (h : f ρ = .ok (rowsD L) ρ) (hc : L.length ≤ 1000000) : dIter f ρ = .ok (L.map tupN) ρ := by
  apply out_eq
  rw [w_Iter, h]
  simp [isFL_rows]
  exact hc
theorem all_bef {ρ : DL.Env} {v i x y a b : Nat} {L : List (List Nat)} (hL : ∀ r ∈ L, x ∈ r ∧ y ∈ r) (hc : L.length ≤ 1000000) (hr : ρ[i]? = some (some (rowsD L))) (hva : v ≠ a) (hvb : v ≠ b) (ha : ρ[a]? = some (some (natD x))) (hb : ρ[b]? = some (some (natD y)))
    (hv : ∀ d, ρ[v]? = some (some d) → isF d = true) (hl : v < ρ.length) :
    dU gAll (dLc [v] (dIter (dVar i)) (tg1 v) dYes (dOp2 gLt (dIndexT (dVar v) (dVar a)) (dIndexT (dVar v) (dVar b)))) ρ = .ok (.a (.bl (L.all fun r => bef r x y))) ρ := by
  apply out_eq
  rw [w_U]
  refine w_lcM (l := L) tupN (fun _ => true) (fun r => .a (.bl (bef r x y))) hv hl (src_rows (var_eq hr isF_rows) hc) hc (fun r hr => rfl) (fun r hr _ => ?_) ?_
  · obtain ⟨h1, h2⟩ := hL r hr
    refine op2E (a := natD (r.idxOf x)) (b := natD (r.idxOf y)) (ixT_eq h1 (get_set_self hl) (by rw [get_set_ne hva]; exact ha)) (ixT_eq h2 (get_set_self hl) (by rw [get_set_ne hvb]; exact hb)) fun P => ?_
    simp [natD, bef]
  · rw [List.filter_eq_self.mpr fun _ _ => rfl, o_allL]
    exact ⟨rfl, rfl⟩
theorem common_rows {n : Nat} {L : List (List Nat)} (hL : L ≠ []) (hn : n ≤ 10) (hlen : L.length ≤ 100000) (hp : ∀ r ∈ L, Pm n r) : F_common_part_v2 [rowsD L] = .rt (bldO n (cmT L)) none := by
  apply wf_eq
  unfold F_common_part_v2
  rw [wf_fn]
  unfold B_common_part_v2
  obtain ⟨r0, L0, hL0⟩ : ∃ r0 L0, L = r0 :: L0 := by
    cases L with
    | nil => exact absurd rfl hL
    | cons a b => exact ⟨a, b, rfl⟩
  have hp0 : Pm n r0 := hp r0 (by rw [hL0]; simp)
  have e1 : ∀ P : D → Prop, SO (gIsi "tuple" (rowsD L)) P = P (.a (.bl true)) := fun P => ist_tup
  have e3 : ∀ P : D → Prop, SO (gLen (rowsD L)) P = P (.a (.int (L.length : Int))) := fun P => by simp
  have e4 : ∀ P : D → Prop, SO (gIx (rowsD L) (.a (.int 0))) P = P (tupN r0) := fun P => by
    exact rixN (x := 0) (by rw [hL0]; rfl)
  have e5 : ∀ P : D → Prop, SO (gIsi "tuple" (tupN r0)) P = P (.a (.bl true)) := fun P => by unfold tupN; exact ist_tup
  have e6 : ∀ P : D → Prop, SO (gLen (tupN r0)) P = P (.a (.int (n : Int))) := fun P => by unfold tupN; simp [hp0.len]
  have hm0 : ¬ (L.length : Int) = 0 := by rw [hL0, List.length_cons]; omega
  have mem : ∀ {r x}, r ∈ L → x < n → x ∈ r := fun hr hx => perm_full (hp _ hr).len (hp _ hr).nd (hp _ hr).lt hx
  obtain ⟨od, hod⟩ : ∃ od, od = rowsD L := ⟨_, rfl⟩
  have hof : isF od = true := by rw [hod]; exact isF_rows
  have hsrc : ∀ {ρ : DL.Env}, ρ[0]? = some (some od) → dIter (dVar 0) ρ = .ok (L.map tupN) ρ := fun h => by
    rw [hod] at h
    exact src_rows (var_eq h isF_rows) (by omega)
  have hab : ∀ {ρ : DL.Env} {x y : Nat}, x < n → y < n → ρ[0]? = some (some od) → ρ[4]? = some (some (natD x)) → ρ[5]? = some (some (natD y)) → (∀ d, ρ[2]? = some (some d) → isF d = true) → 2 < ρ.length →
      dU gAll (dLc [2] (dIter (dVar 0)) (tg1 2) dYes (dOp2 gLt (dIndexT (dVar 2) (dVar 4)) (dIndexT (dVar 2) (dVar 5)))) ρ = .ok (.a (.bl (L.all fun r => bef r x y))) ρ := fun {ρ x y} hx hy h0 h4 h5 h2 hl => by
    rw [hod] at h0
    exact all_bef (fun r hr => ⟨mem hr hx, mem hr hy⟩) (by omega) h0 (by decide) (by decide) h4 h5 h2 hl
  rw [← hod] at e1 e3 e4 ⊢
  refine wp_step fun K hK => ?_
  simp [hof, e1, e3, e4, e5, hL]
  apply hK
  clear hK K
  refine wp_step fun K hK => ?_
  simp [hof, e4, e6]
  apply hK
  clear hK K
  refine wp_cutK (fun ρ => ∃ (D2 : D), ρ = [some (od), some (natD n), some (D2), none, none, none] ∧ isF D2 = true) (fun K hK => ?_) ?_
  · rw [wx, p_For, hsrc rfl, wo_ok]
    refine wp_forK (fun i ρ => ∃ (v2 : Option D), ρ = [some (od), some (natD n), v2, none, none, none] ∧ (v2 = none → i = 0) ∧ (∀ d, v2 = some d → isF d = true)) ⟨none, rfl, fun _ => rfl, fun d h => by cases h⟩ ?_ ?_
    · intro i d ρ hd h J hJ
      obtain ⟨v2, hρ, hf1, hf2⟩ := h
      subst hρ
      rw [List.getElem?_map] at hd
      obtain ⟨r, hr, rfl⟩ := Option.map_eq_some_iff.mp hd
      rw [s_tg1]
      refine ⟨by simp, ?_⟩
      refine if_no (notE (b := true) (bE (call2 (var_eq rfl isF_tupN) (var_eq rfl rfl) isF_tupN rfl (is_row_eq (by omega) (hp r (List.mem_of_getElem? hr)))))) ?_
      rw [p_Next]
      exact hJ _ ⟨some (tupN r), rfl, fun h => by simp at h, fun d h => by cases h; exact isF_tupN⟩
    · intro ρ h
      obtain ⟨v2, hρ, hf1, hf2⟩ := h
      subst hρ
      cases v2 with
      | none =>
        have := hf1 rfl
        rw [hL0] at this
        simp at this
      | some d => exact hK _ ⟨d, rfl, hf2 d rfl⟩
  intro ρ h
  obtain ⟨D2, hρ, hD2⟩ := h
  subst hρ
  refine wp_step fun K hK => ?_
  simp
  apply hK
  clear hK K
  refine wp_cutK (fun ρ => ∃ (v4 v5 : Option D), ρ = [some (od), some (natD n), some (D2), some (.n .lst false ((prs n (cmT L)).map prD)), v4, v5]) (fun K hK => ?_) ?_
  · rw [wx, p_Frz]
    refine wp_prs (n := n) (T := cmT L) (by decide) (by decide) (by decide) (by decide) (by decide) (by decide) (by simp) (by simp) (by simp) rfl (by omega) rfl (fun x y hx hy ps => ?_) (fun vi vj => ?_)
    · refine (andE (a := !decide (x = y)) (b := L.all fun r => bef r x y) (neN (var_eq rfl rfl) (var_eq rfl rfl)) fun _ => bE (hab hx hy rfl rfl rfl (fun d h => by cases h; exact hD2) (by simp))).trans ?_
      unfold cmT
      simp
    · simp
      exact hK _ ⟨vi, vj, rfl⟩
  intro ρ h
  obtain ⟨v4, v5, hρ⟩ := h
  subst hρ
  simp [ioOf, natD, mk_prs (.inl rfl) (cmT_tr hL) (cmT_irr (L := L)) hn]
theorem cnt_rows {ρ : DL.Env} {v i a b : Nat} {g : D → D → Option D} {L : List (List Nat)} (p : List Nat → Bool) {x y : Nat} (hg : ∀ (r : List Nat), r ∈ L → ∀ P : D → Prop, SO (g (natD (r.idxOf x)) (natD (r.idxOf y))) P = P (.a (.bl (p r)))) (hL : ∀ r ∈ L, x ∈ r ∧ y ∈ r) (hc : L.length ≤ 1000000) (hr : ρ[i]? = some (some (rowsD L))) (hva : v ≠ a) (hvb : v ≠ b) (ha : ρ[a]? = some (some (natD x))) (hb : ρ[b]? = some (some (natD y)))
    (hv : ∀ d, ρ[v]? = some (some d) → isF d = true) (hl : v < ρ.length) :
    dU gLen (dLc [v] (dIter (dVar i)) (tg1 v) (dB (dOp2 g (dIndexT (dVar v) (dVar a)) (dIndexT (dVar v) (dVar b)))) (dVar v)) ρ = .ok (natD (L.filter p).length) ρ := by
  apply out_eq
  rw [w_U]
  refine w_lcM (l := L) tupN p tupN hv hl (src_rows (var_eq hr isF_rows) hc) hc (fun r hr => ?_) (fun r hr _ => var_eq (get_set_self hl) isF_tupN) ?_
  · obtain ⟨h1, h2⟩ := hL r hr
    exact bE (op2E (a := natD (r.idxOf x)) (b := natD (r.idxOf y)) (ixT_eq h1 (get_set_self hl) (by rw [get_set_ne hva]; exact ha)) (ixT_eq h2 (get_set_self hl) (by rw [get_set_ne hvb]; exact hb)) fun P => hg r hr P)
  · simp [natD]
theorem own_sameT {n : Nat} {T S : Tb} {P : D → Prop} (h : ∀ a b, a < n → b < n → T a b = S a b) : SO (gOwn "Order" F_OrderU_eqU true (ordT n T) (ordT n S)) P = P (.a (.bl false)) := by
  rw [ordT_congr h]
  have he := ordeq_gen (n := n) (m := n) (T := S) (S := S)
  have e : decide (n = n ∧ ∀ x, x < n → mask n (S x) = mask n (S x)) = true := by simp
  rw [e] at he
  have hf : isF (ordT n S) = true := isF_ordT
  unfold ordT ordD at he hf ⊢
  rw [so_own (b := true) (io := none) (by simpa [isF_n] using hf) (by simpa [isF_n] using hf) he]
  rfl
theorem wo_next {E : Exn → DL.Env → Prop} {P : D → DL.Env → Prop} {ρ : DL.Env} {i n : Nat} {st : D} {f : DL.Env → Out D} (hi : ρ[i]? = some (some st)) (h : Nms st) (hf : f ρ = .ok (natD n) ρ) (hn : 0 < n) (q : ∀ (st' : D) (v : Nat), Nms st' → v < n → P (natD v) (ρ.set i (some st'))) : WO E P (dCallL 2 (some 0) F_law_next (dALent i (dACons f dANil)) ρ) := by
  rw [w_CallL, w_ALent, hi, so_some, so_some, w_ACons, hf, wo_ok, w_ANil]
  have e : ∀ P : List D × Nat × List D → Prop, SO (agL1 [Ag.s i, Ag.d (natD n)]) P = P ([], i, [natD n]) := fun P => rfl
  rw [e]
  dsimp only
  rw [hi, so_some, so_some]
  refine ⟨⟨rfl, rfl⟩, ?_⟩
  have hz : frzL ([] : List D) ++ st :: frzL [natD n] = [st, .int (n : Int)] := rfl
  rw [hz]
  refine (next_wf h (n : Int) (by omega)).mono ?_
  rintro d io ⟨v, rfl, v0, v1, st', rfl, h2⟩
  obtain ⟨v, rfl⟩ := Int.eq_ofNat_of_zero_le v0
  rw [so_some]
  exact q st' v h2 (by omega)
theorem next_ex {ρ : DL.Env} {i n : Nat} {st : D} {f : DL.Env → Out D} (hi : ρ[i]? = some (some st)) (h : Nms st) (hf : f ρ = .ok (natD n) ρ) (hn : 0 < n) : ∃ st' v, dCallL 2 (some 0) F_law_next (dALent i (dACons f dANil)) ρ = .ok (natD v) (ρ.set i (some st')) ∧ Nms st' ∧ v < n := by
  obtain ⟨d, ρ', e, st', v, rfl, rfl, h1, h2⟩ := wo_exx (wo_next (P := fun d ρ' => ∃ st' v, d = natD v ∧ ρ' = ρ.set i (some st') ∧ Nms st' ∧ v < n) hi h hf hn fun st' v h1 h2 => ⟨st', v, rfl, rfl, h1, h2⟩)
  exact ⟨st', v, e, h1, h2⟩
theorem src_next1 {ρ ρ' : DL.Env} {f : DL.Env → Out D} {v : Nat} (e : f ρ = .ok (natD v) ρ') (hv : v ≤ 100) : dRng1 (dOp2 gAdd (dC (.int 1)) f) ρ = .ok ((List.range (1 + v)).map natD) ρ' := by
  refine src_any ?_ (by omega)
  unfold dOp2
  rw [cE]
  dsimp only
  rw [e]
  show (match gAdd (.a (.int 1)) (natD v) with | some d => Out.ok d _ | none => .st) = _
  have : gAdd (.a (.int 1)) (natD v) = some (natD (1 + v)) := by
    show some (D.a (.int (1 + (v : Int)))) = _
    unfold natD
    rw [show (1 + (v : Int)) = ((1 + v : Nat) : Int) by omega]
  rw [this]
theorem rix_at {ρ ρ' : DL.Env} {i v : Nat} {f : DL.Env → Out D} {L : List (List Nat)} {r : List Nat} (h1 : ρ[i]? = some (some (rowsD L))) (hf : f ρ = .ok (natD v) ρ') (hr : L[v]? = some r) : dOp2 gIx (dVar i) f ρ = .ok (tupN r) ρ' := by
  unfold dOp2
  rw [var_eq h1 isF_rows]
  dsimp only
  rw [hf]
  show (match gIx (rowsD L) (natD v) with | some d => Out.ok d ρ' | none => .st) = _
  have := rixN (P := fun d => d = tupN r) hr
  cases e : gIx (rowsD L) (.a (.int (v : Int))) with
  | none => rw [e] at this; simp at this
  | some d =>
    rw [e] at this
    have e2 : d = tupN r := by simpa using this
    show (match gIx (rowsD L) (.a (.int (v : Int))) with | some d => Out.ok d ρ' | none => .st) = _
    rw [e, e2]
theorem lessE {n x y i j k : Nat} {T : Tb} {ρ : DL.Env} (h : ρ[i]? = some (some (ordT n T))) (hj : ρ[j]? = some (some (natD x))) (hk : ρ[k]? = some (some (natD y))) (hx : x < n) (hy : y < n) : dMeth "Order" "less" 2 F_Order_less (dVar i) (dACons (dVar j) (dACons (dVar k) dANil)) ρ = .ok (.a (.bl (T x y))) ρ := by
  apply out_eq
  simp [h, hj, hk, natD, isF_ordT, asIns_ord, less_eq' hx hy, nfl]
theorem isFL_ap : ∀ {xs ys : List D}, isFL xs = true → isFL ys = true → isFL (xs ++ ys) = true
  | [], ys, _, h => h
  | x :: xs, ys, h1, h2 => by
    have h1 : (isF x && isFL xs) = true := h1
    rw [Bool.and_eq_true] at h1
    show (isF x && isFL (xs ++ ys)) = true
    rw [h1.1, isFL_ap h1.2 h2]; rfl
theorem common_long {n : Nat} {r : List Nat} (hn : n ≤ 10) (h : Pm n r) : ∃ io, F_common_part_v2 [rowsD [r, r ++ [n]]] = .ex ⟨"Malformed", []⟩ io := by
  apply wf_exx
  unfold F_common_part_v2
  rw [wf_fn]
  unfold B_common_part_v2
  have e1 : ∀ P : D → Prop, SO (gIsi "tuple" (rowsD [r, r ++ [n]])) P = P (.a (.bl true)) := fun P => ist_tup
  have e3 : ∀ P : D → Prop, SO (gLen (rowsD [r, r ++ [n]])) P = P (.a (.int ((2 : Nat) : Int))) := fun P => by simp
  have e4 : ∀ P : D → Prop, SO (gIx (rowsD [r, r ++ [n]]) (.a (.int 0))) P = P (tupN r) := fun P => rixN (x := 0) rfl
  have e5 : ∀ P : D → Prop, SO (gIsi "tuple" (tupN r)) P = P (.a (.bl true)) := fun P => by unfold tupN; exact ist_tup
  have e6 : ∀ P : D → Prop, SO (gLen (tupN r)) P = P (.a (.int (n : Int))) := fun P => by unfold tupN; simp [h.len]
  obtain ⟨od, hod⟩ : ∃ od, od = rowsD [r, r ++ [n]] := ⟨_, rfl⟩
  have hof : isF od = true := by rw [hod]; exact isF_rows
  have hsrc : ∀ {ρ : DL.Env}, ρ[0]? = some (some od) → dIter (dVar 0) ρ = .ok [tupN r, tupN (r ++ [n])] ρ := fun h => by
    rw [hod] at h
    exact src_rows (L := [r, r ++ [n]]) (var_eq h isF_rows) (by simp)
  rw [← hod] at e1 e3 e4 ⊢
  refine wp_step fun K hK => ?_
  simp [hof, e1, e3, e4, e5]
  apply hK
  clear hK K
  refine wp_step fun K hK => ?_
  simp [hof, e4, e6]
  apply hK
  clear hK K
  refine wp_step fun K hK => ?_
  rw [wx, p_For, hsrc rfl, wo_ok]
  refine forL_cons ?_
  rw [s_tg1]
  refine ⟨by simp, ?_⟩
  refine if_no (notE (b := true) (bE (call2 (var_eq rfl isF_tupN) (var_eq rfl rfl) isF_tupN rfl (is_row_eq (by omega) h)))) ?_
  rw [p_Next]
  refine forL_cons ?_
  rw [s_tg1]
  refine ⟨by simp, ?_⟩
  have hb : F_is_row [tupN (r ++ [n]), natD n] = .rt (.a (.bl false)) none := row_len (isFL_map fun _ => rfl) (by simp [h.len])
  rw [p_If, notE (b := false) (bE (call2 (var_eq rfl isF_tupN) (var_eq rfl rfl) isF_tupN rfl hb)), wo_ok, if_pos (by decide), p_Raise]
theorem ref_long {n : Nat} {r : List Nat} (hn : n ≤ 10) (h : Pm n r) : F_law_refuses_v2 [rowsD [r, r ++ [n]]] = .rt (.a (.bl true)) none := by
  obtain ⟨io, hb⟩ := common_long hn h
  apply wf_eq
  unfold F_law_refuses_v2
  rw [wf_fn]
  unfold B_law_refuses_v2
  have hc : List.lookup ("Malformed" : Str) ([("Malformed", true), ("Refused", false)] : List (Str × Bool)) = some true := lkMM
  obtain ⟨od, hod⟩ : ∃ od, od = rowsD [r, r ++ [n]] := ⟨_, rfl⟩
  have hof : isF od = true := by rw [hod]; exact isF_rows
  rw [← hod] at hb ⊢
  simp [hof, frz_isF _ hof, hb]
  rw [p_catch (b := true) hc]
  simp [ioOf]
theorem count_none {n x y : Nat} {T : Tb} (hx : x < n) (hy : y < n) (h : x = y ∨ T y x = true) : F_count_before [ordT n T, natD x, natD y] = .rt (natD 0) none := by
  apply wf_eq
  unfold F_count_before
  rw [wf_fn]
  unfold B_count_before
  refine wp_step fun K hK => ?_
  rcases h with h | h
  · simp [natD, h, ioOf]
  · by_cases e : (x : Int) = (y : Int)
    · simp [natD, e, ioOf]
    · simp [natD, e, isF_ordT, asIns_ord, less_eq' hy hx, h, ioOf]
      exact nfl
theorem count_some {n x y : Nat} {T : Tb} (hn : n ≤ 5) (tT : Tr n T) (iT : Irr n T) (hx : x < n) (hy : y < n) (hne : x ≠ y) (hyx : T y x = false) : F_count_before [ordT n T, natD x, natD y] = .rt (natD ((cmp n T n 0).filter fun r => bef r x y).length) none := by
  apply wf_eq
  unfold F_count_before
  rw [wf_fn]
  unfold B_count_before
  have e1 : ∀ P : D → Prop, SO (gAdd (.n .lst true ((prs n T).map prD)) (.n .lst true [prD (x, y)])) P = P (.lst true ((prs n T).map prD ++ [prD (x, y)])) := fun P => by
    have h1 := prs_lenn (n := n) (T := T)
    have h2 : n * n ≤ 5 * 5 := Nat.mul_le_mul hn hn
    rw [catL (by simp [isFL_map]) (by simp [isFL]) (by simp; omega)]
  have e1' : ∀ P : D → Prop, SO (gAdd (.n .lst true ((prs n T).map prD)) (.n .lst true [.n .tup false [.a (.int (x : Int)), .a (.int (y : Int))]])) P = P (.lst true ((prs n T).map prD ++ [.n .tup false [.a (.int (x : Int)), .a (.int (y : Int))]])) := e1
  have hmk : F_OrderU_initU [.n (.ins "Order" []) true [], .a (.int (n : Int)), .n .lst false ((prs n T).map prD ++ [.n .tup false [.a (.int (x : Int)), .a (.int (y : Int))]])] = .rt (.a .non) (some (bldO n (add1 T x y))) := by
    have h1 := prs_lenn (n := n) (T := T)
    have h2 : n * n ≤ 5 * 5 := Nat.mul_le_mul hn hn
    have := mk_of (k := .lst) (.inl rfl) (add1_bd hx hy) (fun a b ha hb => add1_clo tT hx hy hne hyx ha hb) (add1_irr tT iT hx hy hne hyx) (by omega) (by simp; omega)
    rw [List.map_append] at this
    exact this
  have hnx : ¬ (x : Int) = (y : Int) := by omega
  have hct : F_count_linear [ordT n (add1 T x y)] = .rt (natD ((cmp n T n 0).filter fun r => bef r x y).length) none := by
    rw [count_eq hn, Wv_zero, add1_cmp tT iT hx hy hne hyx]
    rfl
  refine wp_step fun K hK => ?_
  simp [natD, hnx, isF_ordT, asIns_ord, less_eq' hy hx, hyx]
  refine ⟨nfl, ?_⟩
  apply hK
  clear hK K
  have e2 : ∀ ρ : DL.Env, ρ[0]? = some (some (ordT n T)) → ρ[1]? = some (some (natD x)) → ρ[2]? = some (some (natD y)) → dMake "Order" 2 F_OrderU_initU (dACons (dMeth "Order" "size" 0 F_Order_size (dVar 0) dANil) (dACons (dOp2 gAdd (dU gList (dMeth "Order" "pairs" 0 F_Order_pairs (dVar 0) dANil)) (dLst (dACons (dTup (dACons (dVar 1) (dACons (dVar 2) dANil))) dANil))) dANil)) ρ = .ok (bldO n (add1 T x y)) ρ := by
    intro ρ h0 h1 h2
    apply out_eq
    rw [w_Make]
    have hfz : frzL ((prs n T).map prD ++ [.n .tup false [.a (.int (x : Int)), .a (.int (y : Int))]]) = (prs n T).map prD ++ [.n .tup false [.a (.int (x : Int)), .a (.int (y : Int))]] := frzL_isFL _ (isFL_ap (isFL_map fun _ => rfl) rfl)
    simp [natD, hfz, h0, h1, h2, isF_ordT, asIns_ord, size_eq', nfs, pairs_eq' (show n ≤ 60 by omega), nfp, e1', hmk]
  have e3 : ∀ ρ : DL.Env, ρ[0]? = some (some (ordT n T)) → ρ[1]? = some (some (natD x)) → ρ[2]? = some (some (natD y)) → dCall 1 F_count_linear (dACons (dMake "Order" 2 F_OrderU_initU (dACons (dMeth "Order" "size" 0 F_Order_size (dVar 0) dANil) (dACons (dOp2 gAdd (dU gList (dMeth "Order" "pairs" 0 F_Order_pairs (dVar 0) dANil)) (dLst (dACons (dTup (dACons (dVar 1) (dACons (dVar 2) dANil))) dANil))) dANil))) dANil) ρ = .ok (natD ((cmp n T n 0).filter fun r => bef r x y).length) ρ := by
    intro ρ h0 h1 h2
    apply out_eq
    rw [w_Call, w_ACons, e2 ρ h0 h1 h2, wo_ok, w_ANil]
    have hct' : F_count_linear [.n (.ins "Order" ["n", "above"]) false [.a (.int (n : Int)), .n .tup false (vec n (mrow n (add1 T x y)))]] = .rt (natD ((cmp n T n 0).filter fun r => bef r x y).length) none := hct
    simp [hct']
  rw [p_Bind, e3 _ rfl rfl rfl, wo_ok]
  exact ⟨rfl, rfl⟩
end DC
namespace G33
open PySem L2 DL
def B_law : DL.Env → Fl :=
  (dSeq (dBind (dCall 1 DC.F_law_numbers (dACons (dVar 0) dANil)) (stSet 1))
  (dSeq (dBind (dFz (dCallL 2 (some 0) DC.F_law_order (dALent 1 (dACons (dC (.int 5)) dANil)))) (stSet 2))
  (dSeq (dBind (dMeth "Order" "size" 0 DC.F_Order_size (dVar 2) dANil) (stSet 3))
  (dSeq (dBind (dCall 1 DC.F_all_linear (dACons (dVar 2) dANil)) (stSet 4))
  (dSeq (dFor (dRng1 (dVar 3)) (tg1 5) (dFor (dRng1 (dVar 3)) (tg1 8) (dSeq (dBind (dU gLen (dLc [11] (dIter (dVar 4)) (tg1 11) (dB (dOp2 gLt (dIndexT (dVar 11) (dVar 5)) (dIndexT (dVar 11) (dVar 8)))) (dVar 11))) (stSet 9))
  (dIf (dB (dOp2 gNe (dCall 3 DC.F_count_before (dACons (dVar 2) (dACons (dVar 5) (dACons (dVar 8) dANil)))) (dVar 9))) (dBind (dC (.bl false)) fun d ρ => .rt d ρ) dNext))))
  (dSeq (dIf (dB (dOp2 (gOwn "Order" DC.F_OrderU_eqU true) (dFz (dCall 1 DC.F_common_part_v2 (dACons (dVar 4) dANil))) (dVar 2))) (dBind (dC (.bl false)) fun d ρ => .rt d ρ) dNext)
  (dSeq (dFrz 1 (dBind (dU gTuple (dLc [10] (dRng1 (dOp2 gAdd (dC (.int 1)) (dCallL 2 (some 0) DC.F_law_next (dALent 1 (dACons (dC (.int 3)) dANil))))) (tg1 10) dYes (dOp2 gIx (dVar 4) (dCallL 2 (some 0) DC.F_law_next (dALent 1 (dACons (dU gLen (dVar 4)) dANil)))))) (stSet 6)))
  (dSeq (dBind (dFz (dCall 1 DC.F_common_part_v2 (dACons (dVar 6) dANil))) (stSet 7))
  (dSeq (dFor (dRng1 (dVar 3)) (tg1 5) (dFor (dRng1 (dVar 3)) (tg1 8) (dSeq (dBind (dAndV (dOp2 gNe (dVar 5) (dVar 8)) (dOp2 gEq (dU gLen (dLc [11] (dIter (dVar 6)) (tg1 11) (dB (dOp2 gGt (dIndexT (dVar 11) (dVar 5)) (dIndexT (dVar 11) (dVar 8)))) (dVar 11))) (dC (.int 0)))) (stSet 9))
  (dIf (dB (dOp2 gNe (dMeth "Order" "less" 2 DC.F_Order_less (dVar 7) (dACons (dVar 5) (dACons (dVar 8) dANil))) (dVar 9))) (dBind (dC (.bl false)) fun d ρ => .rt d ρ) dNext))))
  (dSeq (dIf (dOrT (dNotT (dB (dCall 1 DC.F_law_refuses_v2 (dACons (dTup dANil) dANil)))) (dOrT (dNotT (dB (dCall 1 DC.F_law_refuses_v2 (dACons (dC .non) dANil)))) (dNotT (dB (dCall 1 DC.F_law_refuses_v2 (dACons (dTup (dACons (dOp2 gIx (dVar 4) (dC (.int 0))) (dACons (dOp2 gAdd (dOp2 gIx (dVar 4) (dC (.int 0))) (dTup (dACons (dVar 3) dANil))) dANil))) dANil)))))) (dBind (dC (.bl false)) fun d ρ => .rt d ρ) dNext)
  (dBind (dAndV (dCall 1 DC.F_law_refuses_v2 (dACons (dTup (dACons (dTup (dACons (dC (.int 0)) (dACons (dC (.int 0)) dANil))) dANil)) dANil)) (dCall 1 DC.F_law_refuses_v2 (dACons (dTup (dACons (dLst (dACons (dC (.int 0)) dANil)) dANil)) dANil))) fun d ρ => .rt d ρ)))))))))))
def F_law : List D → FR := fnD 12 none B_law
end G33
set_option pp.maxSteps 1500
namespace G33
open PySem L2 DL DC
theorem ref_nil : F_law_refuses_v2 [.n .tup false []] = .rt (.a (.bl true)) none := by kernel_rfl
theorem ref_non : F_law_refuses_v2 [.a .non] = .rt (.a (.bl true)) none := by kernel_rfl
theorem ref_00 : F_law_refuses_v2 [.n .tup false [.n .tup false [.a (.int 0), .a (.int 0)]]] = .rt (.a (.bl true)) none := by kernel_rfl
theorem ref_l0 : F_law_refuses_v2 [.n .tup false [.n .lst false [.a (.int 0)]]] = .rt (.a (.bl true)) none := by kernel_rfl
theorem law_true (ns : List Int) (hl : ns.length ≤ 63) (hb : ∀ z ∈ ns, Builtin.Int.intBits z ≤ 1048576) : F_law [.scr (ns.map D.int)] = .rt (.bl true) none := by
  apply wf_eq
  unfold F_law
  rw [wf_fn]
  unfold B_law
  refine wp_step fun K hK => ?_
  simp
  refine (numbers_wf ns hl hb).mono ?_
  intro d io h1
  apply hK
  clear hK K
  generalize D.scr (ns.map D.int) = d0
  refine wp_cutK (fun ρ => ∃ (st : D) (n : Nat) (T : Tb), ρ = [some (d0), some (st), some (ordT n T), none, none, none, none, none, none, none, none, none] ∧ (n ≤ 5 ∧ Irr n T ∧ Tr n T ∧ Nms st)) (fun K hK => ?_) ?_
  · simp
    refine (order_wf h1.1 5 (by decide)).mono ?_
    rintro d io ⟨n, ps, rfl, hn, hac, st', rfl, h3⟩
    simp [ordD_eq, frz_bldO]
    exact hK _ ⟨_, n, _, rfl, hn, acyc_irr hac, clo_tr hac.bd, h3⟩
  clear h1 io d
  intro ρ h
  obtain ⟨st, n, T, hρ, hn, iT, tT, h1⟩ := h
  subst hρ
  have hp5 := p5n hn
  obtain ⟨L, hL⟩ : ∃ L, L = cmp n T n 0 := ⟨_, rfl⟩
  have hLp : ∀ r ∈ L, Pm n r ∧ fitB T r = true := fun r hr => cmp_pm iT (by rw [← hL]; exact hr)
  have hLm : ∀ {x y : Nat}, x < n → y < n → ∀ r ∈ L, x ∈ r ∧ y ∈ r := fun hx hy r hr => ⟨perm_full (hLp r hr).1.len (hLp r hr).1.nd (hLp r hr).1.lt hx, perm_full (hLp r hr).1.len (hLp r hr).1.nd (hLp r hr).1.lt hy⟩
  have hLne : L ≠ [] := by
    obtain ⟨s, hs⟩ := cmp_ex tT iT (m := n) (F := 0) (by rw [bits_zero]; omega)
    rw [hL]
    exact List.ne_nil_of_mem hs
  have hLl : L.length ≤ 3125 := by
    have := rwL_len (T := T) hn n
    rw [rwL_all, ← hL] at this
    omega
  have hal := all_linear_eq (T := T) hn iT
  rw [← hL] at hal
  refine wp_step fun K hK => ?_
  simp [isF_ordT, asIns_ord, size_eq', nfs]
  apply hK
  clear hK K
  refine wp_step fun K hK => ?_
  simp [isF_ordT, frz_ordT, hal]
  apply hK
  clear hK K
  refine wp_cutK (fun ρ => ∃ (v5 v8 v9 : Option D), ρ = [some (d0), some (st), some (ordT n T), some (natD n), some (rowsD L), v5, none, none, v8, v9, none, none]) (fun K hK => ?_) ?_
  · rw [wx, p_For, src_rngN (n := n) (var_eq rfl rfl) (by omega), wo_ok]
    refine wp_forK (fun x ρ => ∃ (v5 v8 v9 : Option D), ρ = [some (d0), some (st), some (ordT n T), some (natD n), some (rowsD L), v5, none, none, v8, v9, none, none]) ⟨none, none, none, rfl⟩ ?_ ?_
    · intro x d ρ hd h J hJ
      obtain ⟨v5, v8, v9, hρ⟩ := h
      subst hρ
      obtain ⟨hx, rfl⟩ := vec_get' (f := natD) hd
      rw [s_tg1]
      refine ⟨by simp, ?_⟩
      rw [p_For, src_rngN (n := n) (var_eq rfl rfl) (by omega), wo_ok]
      refine wp_forK (fun y ρ => ∃ (v8 v9 : Option D), ρ = [some (d0), some (st), some (ordT n T), some (natD n), some (rowsD L), some (natD x), none, none, v8, v9, none, none]) ⟨v8, v9, rfl⟩ ?_ ?_
      · intro y d ρ hd h J2 hJ2
        obtain ⟨v8, v9, hρ⟩ := h
        subst hρ
        obtain ⟨hy, rfl⟩ := vec_get' (f := natD) hd
        rw [s_tg1]
        refine ⟨by simp, ?_⟩
        refine wp_step fun K hK => ?_
        rw [wx, p_Bind]
        refine wo_of (cnt_rows (x := x) (y := y) (fun r => bef r x y) (fun r hr P => by simp [natD, bef]) (hLm hx hy) (by omega) rfl (by decide) (by decide) rfl rfl (fun d h => by cases h) (by simp)) ?_
        rw [p_Set]
        refine ⟨by simp, ?_⟩
        apply hK
        clear hK K
        have hc : F_count_before [ordT n T, natD x, natD y] = .rt (natD (L.filter fun r => bef r x y).length) none := by
          by_cases q : x = y ∨ T y x = true
          · rw [count_none hx hy q]
            have : (L.filter fun r => bef r x y) = [] := by
              rw [List.filter_eq_nil_iff]
              intro r hr
              have h2 := (fit_idx iT (hLp r hr).1).mp (hLp r hr).2
              unfold bef
              rw [decide_eq_true_eq]
              rcases q with q | q
              · subst q; omega
              · have := h2 y x hy hx q
                simp [bef] at this
                omega
            rw [this]
            rfl
          · have q1 : x ≠ y := fun e => q (.inl e)
            have q2 : T y x = false := by
              cases e : T y x with
              | false => rfl
              | true => exact absurd (.inr e) q
            rw [hL]
            exact count_some hn tT iT hx hy q1 q2
        refine if_no (neNN (call3 (var_eq rfl isF_ordT) (var_eq rfl rfl) (var_eq rfl rfl) isF_ordT rfl rfl hc) (var_eq rfl rfl)) ?_
        rw [p_Next]
        exact hJ2 _ ⟨_, _, rfl⟩
      · intro ρ h
        obtain ⟨v8, v9, hρ⟩ := h
        subst hρ
        exact hJ _ ⟨_, _, _, rfl⟩
    · intro ρ h
      obtain ⟨v5, v8, v9, hρ⟩ := h
      subst hρ
      exact hK _ ⟨_, _, _, rfl⟩
  intro ρ h
  obtain ⟨v5, v8, v9, hρ⟩ := h
  subst hρ
  have hcp : F_common_part_v2 [rowsD L] = .rt (bldO n (cmT L)) none := common_rows hLne (by omega) (by omega) fun r hr => (hLp r hr).1
  refine wp_step fun K hK => ?_
  rw [wx]
  refine if_no (bE (op2E (a := ordT n (cmT L)) (b := ordT n T) ((w_fz (d := bldO n (cmT L)) (call1 (a := rowsD L) (var_eq rfl isF_rows) isF_rows hcp)).trans (by rw [frz_bldO])) (var_eq rfl isF_ordT) fun P => own_sameT fun a b ha hb => by rw [hL]; exact cmT_all tT iT ha hb)) ?_
  rw [p_Next]
  apply hK
  clear hK K
  have hLpos : 0 < L.length := List.length_pos_iff.mpr hLne
  have lenL : ∀ {ρ : DL.Env}, ρ[4]? = some (some (rowsD L)) → dU gLen (dVar 4) ρ = .ok (natD L.length) ρ := fun h => uE (var_eq h isF_rows) fun P => by simp [natD]
  refine wp_cutK (fun ρ => ∃ (C : List (List Nat)) (d1 : D) (v5 v8 v9 : Option D), ρ = [some (d0), some (d1), some (ordT n T), some (natD n), some (rowsD L), v5, some (rowsD C), none, v8, v9, none, none] ∧ (C ≠ [] ∧ C.length ≤ 3 ∧ ∀ r ∈ C, r ∈ L)) (fun K hK => ?_) ?_
  · rw [wx, p_Frz, p_Bind, w_U]
    obtain ⟨st', m, e, h2, hm⟩ := next_ex (ρ := [some (d0), some (st), some (ordT n T), some (natD n), some (rowsD L), v5, none, none, v8, v9, none, none]) (i := 1) (n := 3) (f := dC (.int 3)) rfl h1 rfl (by omega)
    rw [w_Lc, src_next1 e (by omega), wo_ok]
    refine ⟨by rw [List.length_map, List.length_range]; show 1 + m ≤ 1000000; omega, ?_⟩
    refine wo_lcK (fun i ys ρ => ∃ (st : D) (C : List (List Nat)), ys = C.map tupN ∧ C.length = i ∧ (∀ r ∈ C, r ∈ L) ∧ Nms st ∧ ρ = [some (d0), some (st), some (ordT n T), some (natD n), some (rowsD L), v5, none, none, v8, v9, none, none]) ⟨st', [], rfl, rfl, (fun l hl => nomatch hl), h2, rfl⟩ ?_ ?_
    · rintro i d _ _ hd ⟨st, C, rfl, hC, hB, h1, rfl⟩ J hJ
      obtain ⟨hi, rfl⟩ := vec_get' (f := natD) hd
      rw [s_tg1]
      refine ⟨by simp, ?_⟩
      show WO NoE _ (dYes _)
      unfold dYes
      rw [wo_ok, if_pos rfl]
      obtain ⟨st', v, e, h2, hv⟩ := next_ex (ρ := [some (d0), some (st), some (ordT n T), some (natD n), some (rowsD L), v5, none, none, v8, v9, some (natD i), none]) (i := 1) (n := L.length) (f := dU gLen (dVar 4)) rfl h1 (lenL rfl) hLpos
      obtain ⟨r, hr⟩ : ∃ r, L[v]? = some r := ⟨_, List.getElem?_eq_getElem hv⟩
      show WO NoE _ (dOp2 gIx (dVar 4) _ [some (d0), some (st), some (ordT n T), some (natD n), some (rowsD L), v5, none, none, v8, v9, some (natD i), none])
      rw [rix_at rfl e hr, wo_ok]
      refine hJ _ _ ⟨st', C ++ [r], by simp, by simp [hC], fun l' hl' => ?_, h2, rfl⟩
      rcases List.mem_append.mp hl' with q | q
      · exact hB l' q
      · have : l' = r := by simpa using q
        subst this; exact List.mem_of_getElem? hr
    · rintro _ _ ⟨st, C, rfl, hC, hB, h1, rfl⟩
      rw [List.length_map, List.length_range] at hC
      have hf : isFL (C.map tupN) = true := isFL_rows
      simp [hf]
      exact hK _ ⟨C, frz st, _, _, _, rfl, (by intro e; subst e; simp at hC; omega), by omega, hB⟩
  intro ρ h
  obtain ⟨C, d1, v5, v8, v9, hρ, hCne, hCl, hCm⟩ := h
  subst hρ
  have hcp2 : F_common_part_v2 [rowsD C] = .rt (bldO n (cmT C)) none := common_rows hCne (by omega) (by omega) fun r hr => (hLp r (hCm r hr)).1
  refine wp_step fun K hK => ?_
  rw [wx, p_Bind]
  refine wo_of (x := ordT n (cmT C)) ((w_fz (d := bldO n (cmT C)) (call1 (a := rowsD C) (var_eq rfl isF_rows) isF_rows hcp2)).trans (by rw [frz_bldO])) ?_
  rw [p_Set]
  refine ⟨by simp, ?_⟩
  apply hK
  clear hK K
  refine wp_cutK (fun ρ => ∃ (v5 v8 v9 : Option D), ρ = [some (d0), some (d1), some (ordT n T), some (natD n), some (rowsD L), v5, some (rowsD C), some (ordT n (cmT C)), v8, v9, none, none]) (fun K hK => ?_) ?_
  · rw [wx, p_For, src_rngN (n := n) (var_eq rfl rfl) (by omega), wo_ok]
    refine wp_forK (fun x ρ => ∃ (v5 v8 v9 : Option D), ρ = [some (d0), some (d1), some (ordT n T), some (natD n), some (rowsD L), v5, some (rowsD C), some (ordT n (cmT C)), v8, v9, none, none]) ⟨_, _, _, rfl⟩ ?_ ?_
    · intro x d ρ hd h J hJ
      obtain ⟨v5, v8, v9, hρ⟩ := h
      subst hρ
      obtain ⟨hx, rfl⟩ := vec_get' (f := natD) hd
      rw [s_tg1]
      refine ⟨by simp, ?_⟩
      rw [p_For, src_rngN (n := n) (var_eq rfl rfl) (by omega), wo_ok]
      refine wp_forK (fun y ρ => ∃ (v8 v9 : Option D), ρ = [some (d0), some (d1), some (ordT n T), some (natD n), some (rowsD L), some (natD x), some (rowsD C), some (ordT n (cmT C)), v8, v9, none, none]) ⟨v8, v9, rfl⟩ ?_ ?_
      · intro y d ρ hd h J2 hJ2
        obtain ⟨v8, v9, hρ⟩ := h
        subst hρ
        obtain ⟨hy, rfl⟩ := vec_get' (f := natD) hd
        rw [s_tg1]
        refine ⟨by simp, ?_⟩
        refine wp_step fun K hK => ?_
        rw [wx, p_Bind]
        refine wo_of (x := .a (.bl (cmT C x y))) (ρ := [some (d0), some (d1), some (ordT n T), some (natD n), some (rowsD L), some (natD x), some (rowsD C), some (ordT n (cmT C)), some (natD y), v9, none, none]) ((andVE (a := !decide (x = y)) (b := decide ((C.filter fun r => bef r y x).length = 0)) (op2E (a := natD x) (b := natD y) (var_eq rfl rfl) (var_eq rfl rfl) fun P => by
            have e : decide ((x : Int) = (y : Int)) = decide (x = y) := decide_eq_decide.mpr (by omega)
            simp only [natD, o_neI, e]) (op2E (a := natD (C.filter fun r => bef r y x).length) (b := natD 0) (cnt_rows (x := x) (y := y) (fun r => bef r y x) (fun r hr P => by simp [natD, bef]) (fun r hr => hLm hx hy r (hCm r hr)) (by omega) rfl (by decide) (by decide) rfl rfl (fun d h => by cases h) (by simp)) rfl fun P => by simp [natD])).trans ?_) ?_
        · congr 3
          rw [Bool.eq_iff_iff, cmT_iff]
          simp only [Bool.and_eq_true, Bool.not_eq_true', decide_eq_false_iff_not, decide_eq_true_eq, List.length_eq_zero_iff, List.filter_eq_nil_iff]
          refine and_congr_right fun hne => ⟨fun q r hr => ?_, fun q r hr => ?_⟩
          · have q1 := q r hr
            simp [bef] at q1
            have q2 : r.idxOf x ≠ r.idxOf y := fun e => hne ((hLp r (hCm r hr)).1.inj hx hy e)
            omega
          · have := q r hr
            simp [bef]
            omega
        rw [p_Set]
        refine ⟨by simp, ?_⟩
        apply hK
        clear hK K
        refine if_no (neBB (a := cmT C x y) (lessE rfl rfl rfl hx hy) (var_eq rfl rfl)) ?_
        rw [p_Next]
        exact hJ2 _ ⟨_, _, rfl⟩
      · intro ρ h
        obtain ⟨v8, v9, hρ⟩ := h
        subst hρ
        exact hJ _ ⟨_, _, _, rfl⟩
    · intro ρ h
      obtain ⟨v5, v8, v9, hρ⟩ := h
      subst hρ
      exact hK _ ⟨_, _, _, rfl⟩
  intro ρ h
  obtain ⟨v5, v8, v9, hρ⟩ := h
  subst hρ
  obtain ⟨r0, hr0⟩ : ∃ r, L[0]? = some r := ⟨_, List.getElem?_eq_getElem hLpos⟩
  have hp0 : Pm n r0 := (hLp r0 (List.mem_of_getElem? hr0)).1
  have ix0 : ∀ {ρ : DL.Env}, ρ[4]? = some (some (rowsD L)) → dOp2 gIx (dVar 4) (dC (.int 0)) ρ = .ok (tupN r0) ρ := fun h => rix_at (v := 0) h rfl hr0
  have tE : ∀ {ρ : DL.Env} {fa fb : DL.Env → Out D} {a b : D}, fa ρ = .ok a ρ → fb ρ = .ok b ρ → isF a = true → isF b = true → dTup (dACons fa (dACons fb dANil)) ρ = .ok (.n .tup false [a, b]) ρ := fun ha hb h1 h2 => by
    apply out_eq
    rw [w_Tup, w_ACons, ha, wo_ok, w_ACons, hb, wo_ok, w_ANil]
    simp [frz_isF _ h1, frz_isF _ h2]
  refine wp_step fun K hK => ?_
  rw [wx]
  refine if_no (or_no (notE (b := true) (bE (call1 (a := .n .tup false []) rfl rfl ref_nil))) (or_no (notE (b := true) (bE (call1 (a := .a .non) rfl rfl ref_non))) (notE (b := true) (bE (call1 (a := rowsD [r0, r0 ++ [n]]) (tE (ix0 rfl) (op2E (a := tupN r0) (b := .n .tup false [natD n]) (ix0 rfl) (out_eq (by simp [natD])) fun P => add_tup2 (by rw [hp0.len]; omega)) isF_tupN isF_tupN) isF_rows (ref_long (by omega) hp0)))))) ?_
  rw [p_Next]
  apply hK
  clear hK K
  rw [p_Bind]
  refine wo_of (andV (call1 (a := .n .tup false [.n .tup false [.a (.int 0), .a (.int 0)]]) rfl rfl ref_00) (call1 (a := .n .tup false [.n .lst false [.a (.int 0)]]) rfl rfl ref_l0)) ?_
  exact ⟨rfl, rfl⟩
end G33
namespace G33
open PySem L2 DL PyProof.Rows
def top (i : Nat) : Stmt := PySem.Challenge.pw_orderforms_k33_points_before_points.main.body.getD i (.Pass ⟨0, 0, 0, 0⟩)
abbrev s_law_numbers : Stmt := top 24
def d_law_numbers : He.DefD := ⟨("_law_numbers", none), "_law_numbers", "_law_numbers", defArgs s_law_numbers, defBody s_law_numbers, defScope s_law_numbers, [], []⟩
abbrev s_law_next : Stmt := top 25
def d_law_next : He.DefD := ⟨("_law_next", none), "_law_next", "_law_next", defArgs s_law_next, defBody s_law_next, defScope s_law_next, [], []⟩
abbrev s_has : Stmt := top 9
def d_has : He.DefD := ⟨("has", none), "has", "has", defArgs s_has, defBody s_has, defScope s_has, [], []⟩
abbrev s_u_closed : Stmt := top 13
def d_u_closed : He.DefD := ⟨("_closed", none), "_closed", "_closed", defArgs s_u_closed, defBody s_u_closed, defScope s_u_closed, [], []⟩
abbrev s_is_integer : Stmt := top 6
def d_is_integer : He.DefD := ⟨("is_integer", none), "is_integer", "is_integer", defArgs s_is_integer, defBody s_is_integer, defScope s_is_integer, [], []⟩
abbrev s_u_checked_pairs : Stmt := top 12
def d_u_checked_pairs : He.DefD := ⟨("_checked_pairs", none), "_checked_pairs", "_checked_pairs", defArgs s_u_checked_pairs, defBody s_u_checked_pairs, defScope s_u_checked_pairs, [], []⟩
abbrev s_OrderU_initU : Stmt := inClass (top 14) 0
def d_OrderU_initU : He.DefD := ⟨("Order", some "__init__"), "__init__", "Order.__init__", defArgs s_OrderU_initU, defBody s_OrderU_initU, defScope s_OrderU_initU, [], []⟩
abbrev s_law_order : Stmt := top 26
def d_law_order : He.DefD := ⟨("_law_order", none), "_law_order", "_law_order", defArgs s_law_order, defBody s_law_order, defScope s_law_order, [], []⟩
abbrev s_Order_size : Stmt := inClass (top 14) 3
def d_Order_size : He.DefD := ⟨("Order", some "size"), "size", "Order.size", defArgs s_Order_size, defBody s_Order_size, defScope s_Order_size, [], []⟩
abbrev s_set_of : Stmt := top 8
def d_set_of : He.DefD := ⟨("set_of", none), "set_of", "set_of", defArgs s_set_of, defBody s_set_of, defScope s_set_of, [], []⟩
abbrev s_Order_below : Stmt := inClass (top 14) 4
def d_Order_below : He.DefD := ⟨("Order", some "below"), "below", "Order.below", defArgs s_Order_below, defBody s_Order_below, defScope s_Order_below, [], []⟩
abbrev s_members : Stmt := top 7
def d_members : He.DefD := ⟨("members", none), "members", "members", defArgs s_members, defBody s_members, defScope s_members, [], []⟩
abbrev s_following_points : Stmt := top 18
def d_following_points : He.DefD := ⟨("following_points", none), "following_points", "following_points", defArgs s_following_points, defBody s_following_points, defScope s_following_points, [], []⟩
abbrev s_ways_on : Stmt := top 17
def d_ways_on : He.DefD := ⟨("ways_on", none), "ways_on", "ways_on", defArgs s_ways_on, defBody s_ways_on, defScope s_ways_on, [], []⟩
abbrev s_count_linear : Stmt := top 19
def d_count_linear : He.DefD := ⟨("count_linear", none), "count_linear", "count_linear", defArgs s_count_linear, defBody s_count_linear, defScope s_count_linear, [], []⟩
abbrev s_all_linear : Stmt := top 20
def d_all_linear : He.DefD := ⟨("all_linear", none), "all_linear", "all_linear", defArgs s_all_linear, defBody s_all_linear, defScope s_all_linear, [], []⟩
abbrev s_OrderU_eqU : Stmt := inClass (top 14) 2
def d_OrderU_eqU : He.DefD := ⟨("Order", some "__eq__"), "__eq__", "Order.__eq__", defArgs s_OrderU_eqU, defBody s_OrderU_eqU, defScope s_OrderU_eqU, [], []⟩
abbrev s_is_row : Stmt := top 16
def d_is_row : He.DefD := ⟨("is_row", none), "is_row", "is_row", defArgs s_is_row, defBody s_is_row, defScope s_is_row, [], []⟩
abbrev s_common_part : Stmt := top 22
def d_common_part : He.DefD := ⟨("common_part", none), "common_part", "common_part", defArgs s_common_part, defBody s_common_part, defScope s_common_part, [], []⟩
abbrev s_law_refuses : Stmt := top 27
def d_law_refuses : He.DefD := ⟨("_law_refuses", none), "_law_refuses", "_law_refuses", defArgs s_law_refuses, defBody s_law_refuses, defScope s_law_refuses, [], []⟩
abbrev s_Order_less : Stmt := inClass (top 14) 5
def d_Order_less : He.DefD := ⟨("Order", some "less"), "less", "Order.less", defArgs s_Order_less, defBody s_Order_less, defScope s_Order_less, [], []⟩
abbrev s_Order_pairs : Stmt := inClass (top 14) 8
def d_Order_pairs : He.DefD := ⟨("Order", some "pairs"), "pairs", "Order.pairs", defArgs s_Order_pairs, defBody s_Order_pairs, defScope s_Order_pairs, [], []⟩
abbrev s_count_before : Stmt := top 21
def d_count_before : He.DefD := ⟨("count_before", none), "count_before", "count_before", defArgs s_count_before, defBody s_count_before, defScope s_count_before, [], []⟩
abbrev s_law : Stmt := top 28
def d_law : He.DefD := ⟨("law", none), "law", "law", defArgs s_law, defBody s_law, defScope s_law, [], []⟩
def fn : List He.DefD := [d_law_numbers, d_law_next, d_has, d_u_closed, d_is_integer, d_u_checked_pairs, d_OrderU_initU, d_law_order, d_Order_size, d_set_of, d_Order_below, d_members, d_following_points, d_ways_on, d_count_linear, d_all_linear, d_OrderU_eqU, d_is_row, d_common_part, d_law_refuses, d_Order_less, d_Order_pairs, d_count_before, d_law]
def fa : List He.Fa := [.free "range", .free "len", .free "min", .free "abs", .glo "has", .glo "Refused", .free "super", .free "tuple", .free "isinstance", .free "int", .free "bool", .free "list", .glo "Malformed", .exc "Malformed", .glo "is_integer", .int "MOST" 10, .cls "Order", .noat "Order" "n", .glo "_closed", .glo "_checked_pairs", .noat "Order" "above", .glo "_law_next", .glo "Order", .mkr "Order", .glo "set_of", .glo "members", .meth "Order" "below", .meth "Order" "size", .glo "following_points", .free "sum", .glo "ways_on", .glo "count_linear", .free "all", .free "sorted", .glo "is_row", .glo "common_part", .exm "Malformed" "Malformed" true, .exm "Refused" "Malformed" false, .meth "Order" "less", .meth "Order" "pairs", .glo "_law_numbers", .glo "_law_order", .glo "all_linear", .glo "count_before", .meth "Order" "__eq__", .glo "_law_refuses", .glo "law"]
def file : Str := "/claim/cut.py"
abbrev se_Refused : Stmt := inClass (top 4) 0
def es : List DL.ExD := [⟨"Refused", "reason", "__init__", "Refused.__init__", defArgs se_Refused, defBody se_Refused, defScope se_Refused⟩]
def ys : List DL.Fy := [fun K => DL.clsXB K (He.ga K "Order"), fun K => DL.kitNB K (He.ga K "Order")]
structure TX (P : Program) (K : PySem.W.Frag) (mg : Str → Option Value) : Prop where
  says : DL.SaysY file fa fn es ys K
  pf : P.main.file = file
  pt : (P.main.scope.names.lookup ("super" : Str)).isSome = false
  ex : ∃ h : Heap, K.In h ∧ h.Ns mainGlobals mg
section
variable {P : Program} {K : PySem.W.Frag} {mg : Str → Option Value}
theorem TX.d_law_numbers (T : TX P K mg) : ∃ fd, FunD K d_law_numbers.name d_law_numbers.qual d_law_numbers.params d_law_numbers.body d_law_numbers.scope [] [] (He.fAd K d_law_numbers.at_) fd := T.says.d.def_ 0 rfl
theorem TX.d_law_next (T : TX P K mg) : ∃ fd, FunD K d_law_next.name d_law_next.qual d_law_next.params d_law_next.body d_law_next.scope [] [] (He.fAd K d_law_next.at_) fd := T.says.d.def_ 1 rfl
theorem TX.d_has (T : TX P K mg) : ∃ fd, FunD K d_has.name d_has.qual d_has.params d_has.body d_has.scope [] [] (He.fAd K d_has.at_) fd := T.says.d.def_ 2 rfl
theorem TX.d_u_closed (T : TX P K mg) : ∃ fd, FunD K d_u_closed.name d_u_closed.qual d_u_closed.params d_u_closed.body d_u_closed.scope [] [] (He.fAd K d_u_closed.at_) fd := T.says.d.def_ 3 rfl
theorem TX.d_is_integer (T : TX P K mg) : ∃ fd, FunD K d_is_integer.name d_is_integer.qual d_is_integer.params d_is_integer.body d_is_integer.scope [] [] (He.fAd K d_is_integer.at_) fd := T.says.d.def_ 4 rfl
theorem TX.d_u_checked_pairs (T : TX P K mg) : ∃ fd, FunD K d_u_checked_pairs.name d_u_checked_pairs.qual d_u_checked_pairs.params d_u_checked_pairs.body d_u_checked_pairs.scope [] [] (He.fAd K d_u_checked_pairs.at_) fd := T.says.d.def_ 5 rfl
theorem TX.d_OrderU_initU (T : TX P K mg) : ∃ fd, FunD K d_OrderU_initU.name d_OrderU_initU.qual d_OrderU_initU.params d_OrderU_initU.body d_OrderU_initU.scope [] [] (He.fAd K d_OrderU_initU.at_) fd := T.says.d.def_ 6 rfl
theorem TX.d_law_order (T : TX P K mg) : ∃ fd, FunD K d_law_order.name d_law_order.qual d_law_order.params d_law_order.body d_law_order.scope [] [] (He.fAd K d_law_order.at_) fd := T.says.d.def_ 7 rfl
theorem TX.d_Order_size (T : TX P K mg) : ∃ fd, FunD K d_Order_size.name d_Order_size.qual d_Order_size.params d_Order_size.body d_Order_size.scope [] [] (He.fAd K d_Order_size.at_) fd := T.says.d.def_ 8 rfl
theorem TX.d_set_of (T : TX P K mg) : ∃ fd, FunD K d_set_of.name d_set_of.qual d_set_of.params d_set_of.body d_set_of.scope [] [] (He.fAd K d_set_of.at_) fd := T.says.d.def_ 9 rfl
theorem TX.d_Order_below (T : TX P K mg) : ∃ fd, FunD K d_Order_below.name d_Order_below.qual d_Order_below.params d_Order_below.body d_Order_below.scope [] [] (He.fAd K d_Order_below.at_) fd := T.says.d.def_ 10 rfl
theorem TX.d_members (T : TX P K mg) : ∃ fd, FunD K d_members.name d_members.qual d_members.params d_members.body d_members.scope [] [] (He.fAd K d_members.at_) fd := T.says.d.def_ 11 rfl
theorem TX.d_following_points (T : TX P K mg) : ∃ fd, FunD K d_following_points.name d_following_points.qual d_following_points.params d_following_points.body d_following_points.scope [] [] (He.fAd K d_following_points.at_) fd := T.says.d.def_ 12 rfl
theorem TX.d_ways_on (T : TX P K mg) : ∃ fd, FunD K d_ways_on.name d_ways_on.qual d_ways_on.params d_ways_on.body d_ways_on.scope [] [] (He.fAd K d_ways_on.at_) fd := T.says.d.def_ 13 rfl
theorem TX.d_count_linear (T : TX P K mg) : ∃ fd, FunD K d_count_linear.name d_count_linear.qual d_count_linear.params d_count_linear.body d_count_linear.scope [] [] (He.fAd K d_count_linear.at_) fd := T.says.d.def_ 14 rfl
theorem TX.d_all_linear (T : TX P K mg) : ∃ fd, FunD K d_all_linear.name d_all_linear.qual d_all_linear.params d_all_linear.body d_all_linear.scope [] [] (He.fAd K d_all_linear.at_) fd := T.says.d.def_ 15 rfl
theorem TX.d_OrderU_eqU (T : TX P K mg) : ∃ fd, FunD K d_OrderU_eqU.name d_OrderU_eqU.qual d_OrderU_eqU.params d_OrderU_eqU.body d_OrderU_eqU.scope [] [] (He.fAd K d_OrderU_eqU.at_) fd := T.says.d.def_ 16 rfl
theorem TX.d_is_row (T : TX P K mg) : ∃ fd, FunD K d_is_row.name d_is_row.qual d_is_row.params d_is_row.body d_is_row.scope [] [] (He.fAd K d_is_row.at_) fd := T.says.d.def_ 17 rfl
theorem TX.d_common_part (T : TX P K mg) : ∃ fd, FunD K d_common_part.name d_common_part.qual d_common_part.params d_common_part.body d_common_part.scope [] [] (He.fAd K d_common_part.at_) fd := T.says.d.def_ 18 rfl
theorem TX.d_law_refuses (T : TX P K mg) : ∃ fd, FunD K d_law_refuses.name d_law_refuses.qual d_law_refuses.params d_law_refuses.body d_law_refuses.scope [] [] (He.fAd K d_law_refuses.at_) fd := T.says.d.def_ 19 rfl
theorem TX.d_Order_less (T : TX P K mg) : ∃ fd, FunD K d_Order_less.name d_Order_less.qual d_Order_less.params d_Order_less.body d_Order_less.scope [] [] (He.fAd K d_Order_less.at_) fd := T.says.d.def_ 20 rfl
theorem TX.d_Order_pairs (T : TX P K mg) : ∃ fd, FunD K d_Order_pairs.name d_Order_pairs.qual d_Order_pairs.params d_Order_pairs.body d_Order_pairs.scope [] [] (He.fAd K d_Order_pairs.at_) fd := T.says.d.def_ 21 rfl
theorem TX.d_count_before (T : TX P K mg) : ∃ fd, FunD K d_count_before.name d_count_before.qual d_count_before.params d_count_before.body d_count_before.scope [] [] (He.fAd K d_count_before.at_) fd := T.says.d.def_ 22 rfl
theorem TX.d_law (T : TX P K mg) : ∃ fd, FunD K d_law.name d_law.qual d_law.params d_law.body d_law.scope [] [] (He.fAd K d_law.at_) fd := T.says.d.def_ 23 rfl
theorem TX.m_range (T : TX P K mg) : mg "range" = none := let ⟨_, X, G⟩ := T.ex; He.free_ok X G (T.says.d.fact 0 rfl)
theorem TX.m_len (T : TX P K mg) : mg "len" = none := let ⟨_, X, G⟩ := T.ex; He.free_ok X G (T.says.d.fact 1 rfl)
theorem TX.m_min (T : TX P K mg) : mg "min" = none := let ⟨_, X, G⟩ := T.ex; He.free_ok X G (T.says.d.fact 2 rfl)
theorem TX.m_abs (T : TX P K mg) : mg "abs" = none := let ⟨_, X, G⟩ := T.ex; He.free_ok X G (T.says.d.fact 3 rfl)
theorem TX.m_has (T : TX P K mg) : mg "has" = some (.ref (He.fAd K ("has", none))) ∧ PySem.W.keepIn K (.ref (He.fAd K ("has", none))) = true := let ⟨_, X, G⟩ := T.ex; ⟨He.glo_ok X G (T.says.d.fact 4 rfl), let ⟨_, F⟩ := T.d_has; F.kp⟩
theorem TX.m_Refused (T : TX P K mg) : mg "Refused" = some (.ref (He.ga K "Refused")) := let ⟨_, X, G⟩ := T.ex; He.glo_ok X G (T.says.d.fact 5 rfl)
theorem TX.m_super (T : TX P K mg) : mg "super" = none := let ⟨_, X, G⟩ := T.ex; He.free_ok X G (T.says.d.fact 6 rfl)
theorem TX.m_tuple (T : TX P K mg) : mg "tuple" = none := let ⟨_, X, G⟩ := T.ex; He.free_ok X G (T.says.d.fact 7 rfl)
theorem TX.m_isinstance (T : TX P K mg) : mg "isinstance" = none := let ⟨_, X, G⟩ := T.ex; He.free_ok X G (T.says.d.fact 8 rfl)
theorem TX.m_int (T : TX P K mg) : mg "int" = none := let ⟨_, X, G⟩ := T.ex; He.free_ok X G (T.says.d.fact 9 rfl)
theorem TX.m_bool (T : TX P K mg) : mg "bool" = none := let ⟨_, X, G⟩ := T.ex; He.free_ok X G (T.says.d.fact 10 rfl)
theorem TX.m_list (T : TX P K mg) : mg "list" = none := let ⟨_, X, G⟩ := T.ex; He.free_ok X G (T.says.d.fact 11 rfl)
theorem TX.m_Malformed (T : TX P K mg) : mg "Malformed" = some (.ref (He.ga K "Malformed")) := let ⟨_, X, G⟩ := T.ex; He.glo_ok X G (T.says.d.fact 12 rfl)
theorem TX.e_Malformed (T : TX P K mg) : DL.ExP K (He.ga K "Malformed") := let h := He.exc_ok (T.says.d.fact 13 rfl); ⟨h.1, h.2.1, h.2.2.1, h.2.2.2⟩
theorem TX.m_is_integer (T : TX P K mg) : mg "is_integer" = some (.ref (He.fAd K ("is_integer", none))) ∧ PySem.W.keepIn K (.ref (He.fAd K ("is_integer", none))) = true := let ⟨_, X, G⟩ := T.ex; ⟨He.glo_ok X G (T.says.d.fact 14 rfl), let ⟨_, F⟩ := T.d_is_integer; F.kp⟩
theorem TX.m_MOST (T : TX P K mg) : ∃ t, mg "MOST" = some (.int 10 t) := let ⟨_, X, G⟩ := T.ex; He.int_ok X G (T.says.d.fact 15 rfl)
theorem TX.c_Order (T : TX P K mg) : Cls K (He.ga K "Order") := He.cls_ok (T.says.d.fact 16 rfl)
theorem TX.n_Order_n (T : TX P K mg) : NoAttr K (He.ga K "Order") "n" := He.noat_ok (T.says.d.fact 17 rfl)
theorem TX.m__closed (T : TX P K mg) : mg "_closed" = some (.ref (He.fAd K ("_closed", none))) ∧ PySem.W.keepIn K (.ref (He.fAd K ("_closed", none))) = true := let ⟨_, X, G⟩ := T.ex; ⟨He.glo_ok X G (T.says.d.fact 18 rfl), let ⟨_, F⟩ := T.d_u_closed; F.kp⟩
theorem TX.m__checked_pairs (T : TX P K mg) : mg "_checked_pairs" = some (.ref (He.fAd K ("_checked_pairs", none))) ∧ PySem.W.keepIn K (.ref (He.fAd K ("_checked_pairs", none))) = true := let ⟨_, X, G⟩ := T.ex; ⟨He.glo_ok X G (T.says.d.fact 19 rfl), let ⟨_, F⟩ := T.d_u_checked_pairs; F.kp⟩
theorem TX.n_Order_above (T : TX P K mg) : NoAttr K (He.ga K "Order") "above" := He.noat_ok (T.says.d.fact 20 rfl)
theorem TX.m__law_next (T : TX P K mg) : mg "_law_next" = some (.ref (He.fAd K ("_law_next", none))) ∧ PySem.W.keepIn K (.ref (He.fAd K ("_law_next", none))) = true := let ⟨_, X, G⟩ := T.ex; ⟨He.glo_ok X G (T.says.d.fact 21 rfl), let ⟨_, F⟩ := T.d_law_next; F.kp⟩
theorem TX.m_Order (T : TX P K mg) : mg "Order" = some (.ref (He.ga K "Order")) := let ⟨_, X, G⟩ := T.ex; He.glo_ok X G (T.says.d.fact 22 rfl)
theorem TX.k_Order (T : TX P K mg) : Mk K (He.ga K "Order") (He.fAd K ("Order", some "__init__")) := He.mkr_ok (T.says.d.fact 23 rfl)
theorem TX.m_set_of (T : TX P K mg) : mg "set_of" = some (.ref (He.fAd K ("set_of", none))) ∧ PySem.W.keepIn K (.ref (He.fAd K ("set_of", none))) = true := let ⟨_, X, G⟩ := T.ex; ⟨He.glo_ok X G (T.says.d.fact 24 rfl), let ⟨_, F⟩ := T.d_set_of; F.kp⟩
theorem TX.m_members (T : TX P K mg) : mg "members" = some (.ref (He.fAd K ("members", none))) ∧ PySem.W.keepIn K (.ref (He.fAd K ("members", none))) = true := let ⟨_, X, G⟩ := T.ex; ⟨He.glo_ok X G (T.says.d.fact 25 rfl), let ⟨_, F⟩ := T.d_members; F.kp⟩
theorem TX.q_Order_below (T : TX P K mg) : Meth K (He.ga K "Order") "below" (He.fAd K ("Order", some "below")) := He.meth_ok (T.says.d.fact 26 rfl)
theorem TX.q_Order_size (T : TX P K mg) : Meth K (He.ga K "Order") "size" (He.fAd K ("Order", some "size")) := He.meth_ok (T.says.d.fact 27 rfl)
theorem TX.m_following_points (T : TX P K mg) : mg "following_points" = some (.ref (He.fAd K ("following_points", none))) ∧ PySem.W.keepIn K (.ref (He.fAd K ("following_points", none))) = true := let ⟨_, X, G⟩ := T.ex; ⟨He.glo_ok X G (T.says.d.fact 28 rfl), let ⟨_, F⟩ := T.d_following_points; F.kp⟩
theorem TX.m_sum (T : TX P K mg) : mg "sum" = none := let ⟨_, X, G⟩ := T.ex; He.free_ok X G (T.says.d.fact 29 rfl)
theorem TX.m_ways_on (T : TX P K mg) : mg "ways_on" = some (.ref (He.fAd K ("ways_on", none))) ∧ PySem.W.keepIn K (.ref (He.fAd K ("ways_on", none))) = true := let ⟨_, X, G⟩ := T.ex; ⟨He.glo_ok X G (T.says.d.fact 30 rfl), let ⟨_, F⟩ := T.d_ways_on; F.kp⟩
theorem TX.m_count_linear (T : TX P K mg) : mg "count_linear" = some (.ref (He.fAd K ("count_linear", none))) ∧ PySem.W.keepIn K (.ref (He.fAd K ("count_linear", none))) = true := let ⟨_, X, G⟩ := T.ex; ⟨He.glo_ok X G (T.says.d.fact 31 rfl), let ⟨_, F⟩ := T.d_count_linear; F.kp⟩
theorem TX.m_all (T : TX P K mg) : mg "all" = none := let ⟨_, X, G⟩ := T.ex; He.free_ok X G (T.says.d.fact 32 rfl)
theorem TX.m_sorted (T : TX P K mg) : mg "sorted" = none := let ⟨_, X, G⟩ := T.ex; He.free_ok X G (T.says.d.fact 33 rfl)
theorem TX.m_is_row (T : TX P K mg) : mg "is_row" = some (.ref (He.fAd K ("is_row", none))) ∧ PySem.W.keepIn K (.ref (He.fAd K ("is_row", none))) = true := let ⟨_, X, G⟩ := T.ex; ⟨He.glo_ok X G (T.says.d.fact 34 rfl), let ⟨_, F⟩ := T.d_is_row; F.kp⟩
theorem TX.m_common_part (T : TX P K mg) : mg "common_part" = some (.ref (He.fAd K ("common_part", none))) ∧ PySem.W.keepIn K (.ref (He.fAd K ("common_part", none))) = true := let ⟨_, X, G⟩ := T.ex; ⟨He.glo_ok X G (T.says.d.fact 35 rfl), let ⟨_, F⟩ := T.d_common_part; F.kp⟩
theorem TX.xm_Malformed_Malformed (T : TX P K mg) : PySem.W.exmOne K (.ref (He.ga K "Malformed")) (.ref (He.ga K "Malformed")) = some true := He.exm_ok (T.says.d.fact 36 rfl)
theorem TX.xm_Refused_Malformed (T : TX P K mg) : PySem.W.exmOne K (.ref (He.ga K "Refused")) (.ref (He.ga K "Malformed")) = some false := He.exm_ok (T.says.d.fact 37 rfl)
theorem TX.q_Order_less (T : TX P K mg) : Meth K (He.ga K "Order") "less" (He.fAd K ("Order", some "less")) := He.meth_ok (T.says.d.fact 38 rfl)
theorem TX.q_Order_pairs (T : TX P K mg) : Meth K (He.ga K "Order") "pairs" (He.fAd K ("Order", some "pairs")) := He.meth_ok (T.says.d.fact 39 rfl)
theorem TX.m__law_numbers (T : TX P K mg) : mg "_law_numbers" = some (.ref (He.fAd K ("_law_numbers", none))) ∧ PySem.W.keepIn K (.ref (He.fAd K ("_law_numbers", none))) = true := let ⟨_, X, G⟩ := T.ex; ⟨He.glo_ok X G (T.says.d.fact 40 rfl), let ⟨_, F⟩ := T.d_law_numbers; F.kp⟩
theorem TX.m__law_order (T : TX P K mg) : mg "_law_order" = some (.ref (He.fAd K ("_law_order", none))) ∧ PySem.W.keepIn K (.ref (He.fAd K ("_law_order", none))) = true := let ⟨_, X, G⟩ := T.ex; ⟨He.glo_ok X G (T.says.d.fact 41 rfl), let ⟨_, F⟩ := T.d_law_order; F.kp⟩
theorem TX.m_all_linear (T : TX P K mg) : mg "all_linear" = some (.ref (He.fAd K ("all_linear", none))) ∧ PySem.W.keepIn K (.ref (He.fAd K ("all_linear", none))) = true := let ⟨_, X, G⟩ := T.ex; ⟨He.glo_ok X G (T.says.d.fact 42 rfl), let ⟨_, F⟩ := T.d_all_linear; F.kp⟩
theorem TX.m_count_before (T : TX P K mg) : mg "count_before" = some (.ref (He.fAd K ("count_before", none))) ∧ PySem.W.keepIn K (.ref (He.fAd K ("count_before", none))) = true := let ⟨_, X, G⟩ := T.ex; ⟨He.glo_ok X G (T.says.d.fact 43 rfl), let ⟨_, F⟩ := T.d_count_before; F.kp⟩
theorem TX.q_OrderU_eqU (T : TX P K mg) : Meth K (He.ga K "Order") "__eq__" (He.fAd K ("Order", some "__eq__")) := He.meth_ok (T.says.d.fact 44 rfl)
theorem TX.m__law_refuses (T : TX P K mg) : mg "_law_refuses" = some (.ref (He.fAd K ("_law_refuses", none))) ∧ PySem.W.keepIn K (.ref (He.fAd K ("_law_refuses", none))) = true := let ⟨_, X, G⟩ := T.ex; ⟨He.glo_ok X G (T.says.d.fact 45 rfl), let ⟨_, F⟩ := T.d_law_refuses; F.kp⟩
theorem TX.x_Order (T : TX P K mg) : DL.ClsX K (He.ga K "Order") := DL.clsXB_ok (T.says.y 0 rfl)
theorem TX.kn_Order (T : TX P K mg) : DL.KitN K (He.ga K "Order") := DL.kitNB_ok (T.says.y 1 rfl)
theorem TX.r_Refused (T : TX P K mg) (w : World) (base : Heap) : DL.ExS P w K mg base (He.ga K "Refused") "reason" DL.okStr := let ⟨_, _, _, S, F⟩ := T.says.e 0 rfl T.pf T.pt; exS_str (p := "reason") S F T.m_super (by kernel_rfl) (by kernel_rfl) (by kernel_rfl) (by kernel_rfl) ⟨by kernel_rfl, by kernel_rfl⟩ (fun doc pm ctv us hl => match us, hl with | [_, _], _ => by kernel_rfl)
end
theorem sc_law_numbers : FnScope ["_law_script", "_law_found", "_law_k", "_law_cell", "_law_turn", "_law_i", "_law_mixed"] ["_law_script"] (defScope s_law_numbers) := ⟨by kernel_rfl, by kernel_rfl, by kernel_rfl, by decide +kernel, by kernel_rfl, by decide +kernel, by decide +kernel⟩
theorem bi_law_numbers (kV doc pm : Value) (an : Option Addr) (cdv ct : Value) (us : List Value) (hl : us.length = (["_law_script"] : List Str).length) : bindArgs (PySem.W.fnOf "_law_numbers" "_law_numbers" (defArgs s_law_numbers) (defBody s_law_numbers) (defScope s_law_numbers) .none kV doc pm an cdv ct) ⟨us, []⟩ = pure ((["_law_script"] : List Str).zip us) := match us, hl with | [_], _ => by kernel_rfl
theorem sc_law_next : FnScope ["_law_numbers_here", "_law_many"] ["_law_numbers_here", "_law_many"] (defScope s_law_next) := ⟨by kernel_rfl, by kernel_rfl, by kernel_rfl, by decide +kernel, by kernel_rfl, by decide +kernel, by decide +kernel⟩
theorem bi_law_next (kV doc pm : Value) (an : Option Addr) (cdv ct : Value) (us : List Value) (hl : us.length = (["_law_numbers_here", "_law_many"] : List Str).length) : bindArgs (PySem.W.fnOf "_law_next" "_law_next" (defArgs s_law_next) (defBody s_law_next) (defScope s_law_next) .none kV doc pm an cdv ct) ⟨us, []⟩ = pure ((["_law_numbers_here", "_law_many"] : List Str).zip us) := match us, hl with | [_, _], _ => by kernel_rfl
theorem sc_has : FnScope ["bits", "x"] ["bits", "x"] (defScope s_has) := ⟨by kernel_rfl, by kernel_rfl, by kernel_rfl, by decide +kernel, by kernel_rfl, by decide +kernel, by decide +kernel⟩
theorem bi_has (kV doc pm : Value) (an : Option Addr) (cdv ct : Value) (us : List Value) (hl : us.length = (["bits", "x"] : List Str).length) : bindArgs (PySem.W.fnOf "has" "has" (defArgs s_has) (defBody s_has) (defScope s_has) .none kV doc pm an cdv ct) ⟨us, []⟩ = pure ((["bits", "x"] : List Str).zip us) := match us, hl with | [_, _], _ => by kernel_rfl
theorem sc_u_closed : FnScope ["n", "pairs", "above", "x", "y"] ["n", "pairs"] (defScope s_u_closed) := ⟨by kernel_rfl, by kernel_rfl, by kernel_rfl, by decide +kernel, by kernel_rfl, by decide +kernel, by decide +kernel⟩
theorem bi_u_closed (kV doc pm : Value) (an : Option Addr) (cdv ct : Value) (us : List Value) (hl : us.length = (["n", "pairs"] : List Str).length) : bindArgs (PySem.W.fnOf "_closed" "_closed" (defArgs s_u_closed) (defBody s_u_closed) (defScope s_u_closed) .none kV doc pm an cdv ct) ⟨us, []⟩ = pure ((["n", "pairs"] : List Str).zip us) := match us, hl with | [_, _], _ => by kernel_rfl
theorem sc_is_integer : FnScope ["value"] ["value"] (defScope s_is_integer) := ⟨by kernel_rfl, by kernel_rfl, by kernel_rfl, by decide +kernel, by kernel_rfl, by decide +kernel, by decide +kernel⟩
theorem bi_is_integer (kV doc pm : Value) (an : Option Addr) (cdv ct : Value) (us : List Value) (hl : us.length = (["value"] : List Str).length) : bindArgs (PySem.W.fnOf "is_integer" "is_integer" (defArgs s_is_integer) (defBody s_is_integer) (defScope s_is_integer) .none kV doc pm an cdv ct) ⟨us, []⟩ = pure ((["value"] : List Str).zip us) := match us, hl with | [_], _ => by kernel_rfl
theorem sc_u_checked_pairs : FnScope ["n", "pairs", "out", "pair", "x"] ["n", "pairs"] (defScope s_u_checked_pairs) := ⟨by kernel_rfl, by kernel_rfl, by kernel_rfl, by decide +kernel, by kernel_rfl, by decide +kernel, by decide +kernel⟩
theorem bi_u_checked_pairs (kV doc pm : Value) (an : Option Addr) (cdv ct : Value) (us : List Value) (hl : us.length = (["n", "pairs"] : List Str).length) : bindArgs (PySem.W.fnOf "_checked_pairs" "_checked_pairs" (defArgs s_u_checked_pairs) (defBody s_u_checked_pairs) (defScope s_u_checked_pairs) .none kV doc pm an cdv ct) ⟨us, []⟩ = pure ((["n", "pairs"] : List Str).zip us) := match us, hl with | [_, _], _ => by kernel_rfl
theorem sc_OrderU_initU : FnScope ["self", "n", "pairs"] ["self", "n", "pairs"] (defScope s_OrderU_initU) := ⟨by kernel_rfl, by kernel_rfl, by kernel_rfl, by decide +kernel, by kernel_rfl, by decide +kernel, by decide +kernel⟩
theorem bi_OrderU_initU (kV doc pm : Value) (an : Option Addr) (cdv ct : Value) (us : List Value) (hl : us.length = (["self", "n", "pairs"] : List Str).length) : bindArgs (PySem.W.fnOf "__init__" "Order.__init__" (defArgs s_OrderU_initU) (defBody s_OrderU_initU) (defScope s_OrderU_initU) .none kV doc pm an cdv ct) ⟨us, []⟩ = pure ((["self", "n", "pairs"] : List Str).zip us) := match us, hl with | [_, _, _], _ => by kernel_rfl
theorem sc_law_order : FnScope ["_law_numbers_here", "_law_most", "_law_n", "_law_images", "_law_rest", "_law_turn", "_law_thick", "_law_pairs", "_law_i", "_law_j", "_law_k"] ["_law_numbers_here", "_law_most"] (defScope s_law_order) := ⟨by kernel_rfl, by kernel_rfl, by kernel_rfl, by decide +kernel, by kernel_rfl, by decide +kernel, by decide +kernel⟩
theorem bi_law_order (kV doc pm : Value) (an : Option Addr) (cdv ct : Value) (us : List Value) (hl : us.length = (["_law_numbers_here", "_law_most"] : List Str).length) : bindArgs (PySem.W.fnOf "_law_order" "_law_order" (defArgs s_law_order) (defBody s_law_order) (defScope s_law_order) .none kV doc pm an cdv ct) ⟨us, []⟩ = pure ((["_law_numbers_here", "_law_most"] : List Str).zip us) := match us, hl with | [_, _], _ => by kernel_rfl
theorem sc_Order_size : FnScope ["self"] ["self"] (defScope s_Order_size) := ⟨by kernel_rfl, by kernel_rfl, by kernel_rfl, by decide +kernel, by kernel_rfl, by decide +kernel, by decide +kernel⟩
theorem bi_Order_size (kV doc pm : Value) (an : Option Addr) (cdv ct : Value) (us : List Value) (hl : us.length = (["self"] : List Str).length) : bindArgs (PySem.W.fnOf "size" "Order.size" (defArgs s_Order_size) (defBody s_Order_size) (defScope s_Order_size) .none kV doc pm an cdv ct) ⟨us, []⟩ = pure ((["self"] : List Str).zip us) := match us, hl with | [_], _ => by kernel_rfl
theorem sc_set_of : FnScope ["points", "out", "x"] ["points"] (defScope s_set_of) := ⟨by kernel_rfl, by kernel_rfl, by kernel_rfl, by decide +kernel, by kernel_rfl, by decide +kernel, by decide +kernel⟩
theorem bi_set_of (kV doc pm : Value) (an : Option Addr) (cdv ct : Value) (us : List Value) (hl : us.length = (["points"] : List Str).length) : bindArgs (PySem.W.fnOf "set_of" "set_of" (defArgs s_set_of) (defBody s_set_of) (defScope s_set_of) .none kV doc pm an cdv ct) ⟨us, []⟩ = pure ((["points"] : List Str).zip us) := match us, hl with | [_], _ => by kernel_rfl
theorem sc_Order_below : FnScope ["self", "y", "x"] ["self"] (defScope s_Order_below) := ⟨by kernel_rfl, by kernel_rfl, by kernel_rfl, by decide +kernel, by kernel_rfl, by decide +kernel, by decide +kernel⟩
theorem bi_Order_below (kV doc pm : Value) (an : Option Addr) (cdv ct : Value) (us : List Value) (hl : us.length = (["self"] : List Str).length) : bindArgs (PySem.W.fnOf "below" "Order.below" (defArgs s_Order_below) (defBody s_Order_below) (defScope s_Order_below) .none kV doc pm an cdv ct) ⟨us, []⟩ = pure ((["self"] : List Str).zip us) := match us, hl with | [_], _ => by kernel_rfl
theorem sc_members : FnScope ["bits", "x"] ["bits"] (defScope s_members) := ⟨by kernel_rfl, by kernel_rfl, by kernel_rfl, by decide +kernel, by kernel_rfl, by decide +kernel, by decide +kernel⟩
theorem bi_members (kV doc pm : Value) (an : Option Addr) (cdv ct : Value) (us : List Value) (hl : us.length = (["bits"] : List Str).length) : bindArgs (PySem.W.fnOf "members" "members" (defArgs s_members) (defBody s_members) (defScope s_members) .none kV doc pm an cdv ct) ⟨us, []⟩ = pure ((["bits"] : List Str).zip us) := match us, hl with | [_], _ => by kernel_rfl
theorem sc_following_points : FnScope ["below", "whole", "front", "x"] ["below", "whole", "front"] (defScope s_following_points) := ⟨by kernel_rfl, by kernel_rfl, by kernel_rfl, by decide +kernel, by kernel_rfl, by decide +kernel, by decide +kernel⟩
theorem bi_following_points (kV doc pm : Value) (an : Option Addr) (cdv ct : Value) (us : List Value) (hl : us.length = (["below", "whole", "front"] : List Str).length) : bindArgs (PySem.W.fnOf "following_points" "following_points" (defArgs s_following_points) (defBody s_following_points) (defScope s_following_points) .none kV doc pm an cdv ct) ⟨us, []⟩ = pure ((["below", "whole", "front"] : List Str).zip us) := match us, hl with | [_, _, _], _ => by kernel_rfl
theorem sc_ways_on : FnScope ["order", "below", "whole", "layers", "_", "ways", "layer", "following", "front", "x"] ["order"] (defScope s_ways_on) := ⟨by kernel_rfl, by kernel_rfl, by kernel_rfl, by decide +kernel, by kernel_rfl, by decide +kernel, by decide +kernel⟩
theorem bi_ways_on (kV doc pm : Value) (an : Option Addr) (cdv ct : Value) (us : List Value) (hl : us.length = (["order"] : List Str).length) : bindArgs (PySem.W.fnOf "ways_on" "ways_on" (defArgs s_ways_on) (defBody s_ways_on) (defScope s_ways_on) .none kV doc pm an cdv ct) ⟨us, []⟩ = pure ((["order"] : List Str).zip us) := match us, hl with | [_], _ => by kernel_rfl
theorem sc_count_linear : FnScope ["order"] ["order"] (defScope s_count_linear) := ⟨by kernel_rfl, by kernel_rfl, by kernel_rfl, by decide +kernel, by kernel_rfl, by decide +kernel, by decide +kernel⟩
theorem bi_count_linear (kV doc pm : Value) (an : Option Addr) (cdv ct : Value) (us : List Value) (hl : us.length = (["order"] : List Str).length) : bindArgs (PySem.W.fnOf "count_linear" "count_linear" (defArgs s_count_linear) (defBody s_count_linear) (defScope s_count_linear) .none kV doc pm an cdv ct) ⟨us, []⟩ = pure ((["order"] : List Str).zip us) := match us, hl with | [_], _ => by kernel_rfl
theorem sc_all_linear : FnScope ["order", "total", "below", "whole", "found", "_", "longer", "row", "x"] ["order"] (defScope s_all_linear) := ⟨by kernel_rfl, by kernel_rfl, by kernel_rfl, by decide +kernel, by kernel_rfl, by decide +kernel, by decide +kernel⟩
theorem bi_all_linear (kV doc pm : Value) (an : Option Addr) (cdv ct : Value) (us : List Value) (hl : us.length = (["order"] : List Str).length) : bindArgs (PySem.W.fnOf "all_linear" "all_linear" (defArgs s_all_linear) (defBody s_all_linear) (defScope s_all_linear) .none kV doc pm an cdv ct) ⟨us, []⟩ = pure ((["order"] : List Str).zip us) := match us, hl with | [_], _ => by kernel_rfl
theorem sc_OrderU_eqU : FnScope ["self", "other"] ["self", "other"] (defScope s_OrderU_eqU) := ⟨by kernel_rfl, by kernel_rfl, by kernel_rfl, by decide +kernel, by kernel_rfl, by decide +kernel, by decide +kernel⟩
theorem bi_OrderU_eqU (kV doc pm : Value) (an : Option Addr) (cdv ct : Value) (us : List Value) (hl : us.length = (["self", "other"] : List Str).length) : bindArgs (PySem.W.fnOf "__eq__" "Order.__eq__" (defArgs s_OrderU_eqU) (defBody s_OrderU_eqU) (defScope s_OrderU_eqU) .none kV doc pm an cdv ct) ⟨us, []⟩ = pure ((["self", "other"] : List Str).zip us) := match us, hl with | [_, _], _ => by kernel_rfl
theorem sc_is_row : FnScope ["value", "size", "x"] ["value", "size"] (defScope s_is_row) := ⟨by kernel_rfl, by kernel_rfl, by kernel_rfl, by decide +kernel, by kernel_rfl, by decide +kernel, by decide +kernel⟩
theorem bi_is_row (kV doc pm : Value) (an : Option Addr) (cdv ct : Value) (us : List Value) (hl : us.length = (["value", "size"] : List Str).length) : bindArgs (PySem.W.fnOf "is_row" "is_row" (defArgs s_is_row) (defBody s_is_row) (defScope s_is_row) .none kV doc pm an cdv ct) ⟨us, []⟩ = pure ((["value", "size"] : List Str).zip us) := match us, hl with | [_, _], _ => by kernel_rfl
theorem sc_common_part : FnScope ["rows", "size", "row", "pairs", "x", "y"] ["rows"] (defScope s_common_part) := ⟨by kernel_rfl, by kernel_rfl, by kernel_rfl, by decide +kernel, by kernel_rfl, by decide +kernel, by decide +kernel⟩
theorem bi_common_part (kV doc pm : Value) (an : Option Addr) (cdv ct : Value) (us : List Value) (hl : us.length = (["rows"] : List Str).length) : bindArgs (PySem.W.fnOf "common_part" "common_part" (defArgs s_common_part) (defBody s_common_part) (defScope s_common_part) .none kV doc pm an cdv ct) ⟨us, []⟩ = pure ((["rows"] : List Str).zip us) := match us, hl with | [_], _ => by kernel_rfl
theorem sc_law_refuses : FnScope ["_law_rows"] ["_law_rows"] (defScope s_law_refuses) := ⟨by kernel_rfl, by kernel_rfl, by kernel_rfl, by decide +kernel, by kernel_rfl, by decide +kernel, by decide +kernel⟩
theorem bi_law_refuses (kV doc pm : Value) (an : Option Addr) (cdv ct : Value) (us : List Value) (hl : us.length = (["_law_rows"] : List Str).length) : bindArgs (PySem.W.fnOf "_law_refuses" "_law_refuses" (defArgs s_law_refuses) (defBody s_law_refuses) (defScope s_law_refuses) .none kV doc pm an cdv ct) ⟨us, []⟩ = pure ((["_law_rows"] : List Str).zip us) := match us, hl with | [_], _ => by kernel_rfl
theorem sc_Order_less : FnScope ["self", "x", "y"] ["self", "x", "y"] (defScope s_Order_less) := ⟨by kernel_rfl, by kernel_rfl, by kernel_rfl, by decide +kernel, by kernel_rfl, by decide +kernel, by decide +kernel⟩
theorem bi_Order_less (kV doc pm : Value) (an : Option Addr) (cdv ct : Value) (us : List Value) (hl : us.length = (["self", "x", "y"] : List Str).length) : bindArgs (PySem.W.fnOf "less" "Order.less" (defArgs s_Order_less) (defBody s_Order_less) (defScope s_Order_less) .none kV doc pm an cdv ct) ⟨us, []⟩ = pure ((["self", "x", "y"] : List Str).zip us) := match us, hl with | [_, _, _], _ => by kernel_rfl
theorem sc_Order_pairs : FnScope ["self", "out", "x", "y"] ["self"] (defScope s_Order_pairs) := ⟨by kernel_rfl, by kernel_rfl, by kernel_rfl, by decide +kernel, by kernel_rfl, by decide +kernel, by decide +kernel⟩
theorem bi_Order_pairs (kV doc pm : Value) (an : Option Addr) (cdv ct : Value) (us : List Value) (hl : us.length = (["self"] : List Str).length) : bindArgs (PySem.W.fnOf "pairs" "Order.pairs" (defArgs s_Order_pairs) (defBody s_Order_pairs) (defScope s_Order_pairs) .none kV doc pm an cdv ct) ⟨us, []⟩ = pure ((["self"] : List Str).zip us) := match us, hl with | [_], _ => by kernel_rfl
theorem sc_count_before : FnScope ["order", "x", "y"] ["order", "x", "y"] (defScope s_count_before) := ⟨by kernel_rfl, by kernel_rfl, by kernel_rfl, by decide +kernel, by kernel_rfl, by decide +kernel, by decide +kernel⟩
theorem bi_count_before (kV doc pm : Value) (an : Option Addr) (cdv ct : Value) (us : List Value) (hl : us.length = (["order", "x", "y"] : List Str).length) : bindArgs (PySem.W.fnOf "count_before" "count_before" (defArgs s_count_before) (defBody s_count_before) (defScope s_count_before) .none kV doc pm an cdv ct) ⟨us, []⟩ = pure ((["order", "x", "y"] : List Str).zip us) := match us, hl with | [_, _, _], _ => by kernel_rfl
theorem sc_law : FnScope ["_law_script", "_law_numbers_here", "_law_order_here", "_law_n", "_law_rows", "_law_x", "_law_chosen", "_law_found", "_law_y", "_law_due", "_law_turn", "_law_row"] ["_law_script"] (defScope s_law) := ⟨by kernel_rfl, by kernel_rfl, by kernel_rfl, by decide +kernel, by kernel_rfl, by decide +kernel, by decide +kernel⟩
section
variable {P : Program} {w : World} {K : PySem.W.Frag} {mg : Str → Option Value} {base : Heap}
theorem ok_law_numbers (T : TX P K mg) : OkC P w K mg base (He.fAd K ("_law_numbers", none)) ["_law_script"] 1 (spF K (He.ga K) 1 none DC.F_law_numbers) := fn_okD (kio := none) (body := DC.B_law_numbers) T.d_law_numbers sc_law_numbers bi_law_numbers fun cdv A outer s H E hr =>
  (dss_cons (ds_set (i := 1) sc_law_numbers.nd (by kernel_rfl) (.inl (by kernel_rfl)) (de_lst da_nil))
  (dss_cons (ds_for passes_cx rfl (di_rng1 gl_of T.m_range (de_min2 rfl gl_of T.m_min (de_len gl_of T.m_len PySem.boot_len (dp_de (de_var (pvl 0)))) de_int)) (dg_name (i := 2) sc_law_numbers.nd (by kernel_rfl) (.inl (by kernel_rfl)) (.inl rfl)) (dss_cons (ds_set (i := 3) sc_law_numbers.nd (by kernel_rfl) (.inl (by kernel_rfl)) (de_abs gl_of T.m_abs PyProof.Rows.boot_abs (dp_de (de_ix (de_var (pvl 0)) (de_var (pvl 2))))))
  (dss_one (ds_if (dt_cr cr_ge (de_var (pvl 3)) (de_pow de_int de_int)) (dss_one (ds_for passes_cx rfl (di_rng1 gl_of T.m_range de_int) (dg_name (i := 4) sc_law_numbers.nd (by kernel_rfl) (.inl (by kernel_rfl)) (.inl rfl)) (dss_one (ds_if (dt_cr cr_gt (de_var (pvl 3)) de_int) (dss_cons (ds_append (pvl 1) (de_mod (de_var (pvl 3)) de_int))
  (dss_one (ds_set (i := 3) sc_law_numbers.nd (by kernel_rfl) (.inl (by kernel_rfl)) (de_fdiv (de_var (pvl 3)) de_int)))) dss_nil)) (by decide))) (dss_one (ds_for passes_cx rfl (di_rng1 gl_of T.m_range de_int) (dg_name (i := 5) sc_law_numbers.nd (by kernel_rfl) (.inl (by kernel_rfl)) (.inl rfl)) (dss_cons (ds_set (i := 3) sc_law_numbers.nd (by kernel_rfl) (.inl (by kernel_rfl)) (de_mod (de_add (de_add (de_mul (de_var (pvl 3)) de_int) (de_mul de_int (de_add (de_var (pvl 5)) (de_var (pvl 2))))) de_int) de_int))
  (dss_cons (ds_set (i := 6) sc_law_numbers.nd (by kernel_rfl) (.inl (by kernel_rfl)) (de_mod (de_add (de_mul (de_var (pvl 3)) de_int) (de_fdiv (de_var (pvl 3)) de_int)) de_int))
  (dss_one (ds_append (pvl 1) (de_mod (de_var (pvl 6)) de_int))))) (by decide)))))) (by decide))
  (dss_one (ds_retMv (pvl 1)))))
theorem ok_law_next (T : TX P K mg) : OkC P w K mg base (He.fAd K ("_law_next", none)) ["_law_numbers_here", "_law_many"] 1 (spF K (He.ga K) 2 (some 0) DC.F_law_next) := fn_okD (kio := (some 0)) (body := DC.B_law_next) T.d_law_next sc_law_next bi_law_next fun cdv A outer s H E hr =>
  (dss_cons (ds_if (dt_cr (cr_eq hr.units) (de_len gl_of T.m_len PySem.boot_len (dp_peek (pvl 0))) de_int) (dss_one (ds_ret de_int)) dss_nil)
  (dss_one (ds_ret (de_mod (de_popAt (pvl 0) de_int) (de_var (pvl 1))))))
theorem ok_has (T : TX P K mg) : OkC P w K mg base (He.fAd K ("has", none)) ["bits", "x"] 1 (spF K (He.ga K) 2 none DC.F_has) := fn_okD (kio := none) (body := DC.B_has) T.d_has sc_has bi_has fun cdv A outer s H E hr =>
  (dss_one (ds_ret (de_cr (cr_eq hr.units) (de_and (de_shr (de_var (pvl 0)) (de_var (pvl 1))) de_int) de_int)))
theorem ok_u_closed (T : TX P K mg) : OkC P w K mg base (He.fAd K ("_closed", none)) ["n", "pairs"] 3 (spF K (He.ga K) 2 none DC.F_u_closed) := fn_okD (kio := none) (body := DC.B_u_closed) T.d_u_closed sc_u_closed bi_u_closed fun cdv A outer s H E hr =>
  (dss_cons (ds_set (i := 2) sc_u_closed.nd (by kernel_rfl) (.inl (by kernel_rfl)) (de_mul (de_lst (da_cons de_int da_nil)) (de_var (pvl 0))))
  (dss_cons (ds_for passes_cx rfl (di_of (de_var (pvl 1))) (dg_tup rfl (.cons (pg_name (i := 3) sc_u_closed.nd (by kernel_rfl) (.inl (by kernel_rfl)) (.inl rfl)) (.cons (pg_name (i := 4) sc_u_closed.nd (by kernel_rfl) (.inl (by kernel_rfl)) (.inl rfl)) .nil (by kernel_rfl)) (by kernel_rfl)) rfl) (dss_one (ds_sub (de_or (de_ixS (pvl 2) (de_var (pvl 3))) (de_shl de_int (de_var (pvl 4)))) (pvl 2) (de_var (pvl 3)))) (by decide))
  (dss_cons (ds_frzN 2 (ds_for passes_cx rfl (di_rng1 gl_of T.m_range (de_var (pvl 0))) (dg_name (i := 4) sc_u_closed.nd (by kernel_rfl) (.inl (by kernel_rfl)) (.inl rfl)) (dss_one (ds_for passes_cx rfl (di_rng1 gl_of T.m_range (de_var (pvl 0))) (dg_name (i := 3) sc_u_closed.nd (by kernel_rfl) (.inl (by kernel_rfl)) (.inl rfl)) (dss_one (ds_if (dt_val (de_callG (ok_has T) (hr.mono (by decide)) gl_of T.m_has takes_cx (da_cons (de_ixS (pvl 2) (de_var (pvl 3))) (da_cons (de_var (pvl 4)) da_nil)))) (dss_one (ds_sub (de_or (de_ixS (pvl 2) (de_var (pvl 3))) (de_ixS (pvl 2) (de_var (pvl 4)))) (pvl 2) (de_var (pvl 3)))) dss_nil)) (by decide))) (by decide)))
  (dss_cons (ds_for passes_cx rfl (di_rng1 gl_of T.m_range (de_var (pvl 0))) (dg_name (i := 3) sc_u_closed.nd (by kernel_rfl) (.inl (by kernel_rfl)) (.inl rfl)) (dss_one (ds_if (dt_val (de_callG (ok_has T) (hr.mono (by decide)) gl_of T.m_has takes_cx (da_cons (de_ix (de_var (pvl 2)) (de_var (pvl 3))) (da_cons (de_var (pvl 3)) da_nil)))) (dss_one (ds_raiseV rfl takes_cx (T.r_Refused _ _) (hr.mono (by decide)) gl_of T.m_Refused de_str)) dss_nil)) (by decide))
  (dss_one (ds_ret (de_tuple gl_of T.m_tuple PySem.Pv.boot_tuple (dp_de (de_var (pvl 2))))))))))
theorem ok_is_integer (T : TX P K mg) : OkC P w K mg base (He.fAd K ("is_integer", none)) ["value"] 1 (spF K (He.ga K) 1 none DC.F_is_integer) := fn_okD (kio := none) (body := DC.B_is_integer) T.d_is_integer sc_is_integer bi_is_integer fun cdv A outer s H E hr =>
  (dss_one (ds_ret (de_and2 (de_isi (T := "int") gl_of T.m_isinstance gl_of T.m_int PySem.Pv.boot_int (by decide) (dp_de (de_var (pvl 0)))) (de_one (de_notV (de_isi (T := "bool") gl_of T.m_isinstance gl_of T.m_bool PySem.Pv.boot_bool (by decide) (dp_de (de_var (pvl 0)))))))))
theorem ok_u_checked_pairs (T : TX P K mg) : OkC P w K mg base (He.fAd K ("_checked_pairs", none)) ["n", "pairs"] 2 (spF K (He.ga K) 2 none DC.F_u_checked_pairs) := fn_okD (kio := none) (body := DC.B_u_checked_pairs) T.d_u_checked_pairs sc_u_checked_pairs bi_u_checked_pairs fun cdv A outer s H E hr =>
  (dss_cons (ds_if (dt_not (dt_val (de_isi2 (T := "list") (U := "tuple") gl_of T.m_isinstance gl_of T.m_list PySem.Pv.boot_list (by decide) gl_of T.m_tuple PySem.Pv.boot_tuple (by decide) (dp_de (de_var (pvl 1)))))) (dss_one (ds_raise rfl takes_cx T.e_Malformed gl_of T.m_Malformed)) dss_nil)
  (dss_cons (ds_set (i := 2) sc_u_checked_pairs.nd (by kernel_rfl) (.inl (by kernel_rfl)) (de_lst da_nil))
  (dss_cons (ds_frzN 2 (ds_for passes_cx rfl (di_of (de_var (pvl 1))) (dg_name (i := 3) sc_u_checked_pairs.nd (by kernel_rfl) (.inl (by kernel_rfl)) (.inl rfl)) (dss_cons (ds_if (dt_w (dw_or (dt_not (dt_val (de_isi (T := "tuple") gl_of T.m_isinstance gl_of T.m_tuple PySem.Pv.boot_tuple (by decide) (dp_de (de_var (pvl 3)))))) (dw_or1 (dt_cr (cr_ne hr.units) (de_len gl_of T.m_len PySem.boot_len (dp_de (de_var (pvl 3)))) de_int)))) (dss_one (ds_raise rfl takes_cx T.e_Malformed gl_of T.m_Malformed)) dss_nil)
  (dss_cons (ds_for passes_cx rfl (di_of (de_var (pvl 3))) (dg_name (i := 4) sc_u_checked_pairs.nd (by kernel_rfl) (.inl (by kernel_rfl)) (.inl rfl)) (dss_one (ds_if (dt_w (dw_or (dt_not (dt_val (de_callG (ok_is_integer T) (hr.mono (by decide)) gl_of T.m_is_integer takes_cx (da_cons (de_var (pvl 4)) da_nil)))) (dw_or (dt_cr cr_lt (de_var (pvl 4)) de_int) (dw_or1 (dt_cr cr_ge (de_var (pvl 4)) (de_var (pvl 0))))))) (dss_one (ds_raise rfl takes_cx T.e_Malformed gl_of T.m_Malformed)) dss_nil)) (by decide))
  (dss_one (ds_append (pvl 2) (de_var (pvl 3)))))) (by decide)))
  (dss_one (ds_ret (de_var (pvl 2)))))))
theorem ok_OrderU_initU (T : TX P K mg) : OkC P w K mg base (He.fAd K ("Order", some "__init__")) ["self", "n", "pairs"] 4 (spF K (He.ga K) 3 (some 0) DC.F_OrderU_initU) := fn_okD (kio := (some 0)) (body := DC.B_OrderU_initU) T.d_OrderU_initU sc_OrderU_initU bi_OrderU_initU fun cdv A outer s H E hr =>
  (dss_cons (ds_if (dt_w (dw_or (dt_not (dt_val (de_callG (ok_is_integer T) (hr.mono (by decide)) gl_of T.m_is_integer takes_cx (da_cons (de_var (pvl 1)) da_nil)))) (dw_or1 (dt_cr cr_lt (de_var (pvl 1)) de_int)))) (dss_one (ds_raise rfl takes_cx T.e_Malformed gl_of T.m_Malformed)) dss_nil)
  (dss_cons (ds_if (dt_cr cr_gt (de_var (pvl 1)) (let ⟨t, e⟩ := T.m_MOST; de_glob (a := .int 10) gl_of e ⟨t, rfl⟩)) (dss_one (ds_raiseV rfl takes_cx (T.r_Refused _ _) (hr.mono (by decide)) gl_of T.m_Refused de_str)) dss_nil)
  (dss_cons (ds_fld T.c_Order T.n_Order_n (pvl 0) (de_var (pvl 1)))
  (dss_one (ds_fld T.c_Order T.n_Order_above (pvl 0) (de_callG (ok_u_closed T) (hr.mono (by decide)) gl_of T.m__closed takes_cx (da_cons (de_var (pvl 1)) (da_cons (de_callG (ok_u_checked_pairs T) (hr.mono (by decide)) gl_of T.m__checked_pairs takes_cx (da_cons (de_var (pvl 1)) (da_cons (de_var (pvl 2)) da_nil))) da_nil))))))))
theorem ok_law_order (T : TX P K mg) : OkC P w K mg base (He.fAd K ("_law_order", none)) ["_law_numbers_here", "_law_most"] 6 (spF K (He.ga K) 2 (some 0) DC.F_law_order) := fn_okD (kio := (some 0)) (body := DC.B_law_order) T.d_law_order sc_law_order bi_law_order fun cdv A outer s H E hr =>
  (dss_cons (ds_set (i := 2) sc_law_order.nd (by kernel_rfl) (.inl (by kernel_rfl)) (de_callLG (ok_law_next T) (hr.mono (by decide)) gl_of T.m__law_next takes_cx (da_lent (pvl 0) (da_cons (de_add (de_var (pvl 1)) de_int) da_nil))))
  (dss_cons (ds_set (i := 3) sc_law_order.nd (by kernel_rfl) (.inl (by kernel_rfl)) (de_lst da_nil))
  (dss_cons (ds_setLc (i := 4) (own := [("_law_k", 10)]) rfl sc_law_order.nd (by kernel_rfl) (by kernel_rfl) (sw_true (by kernel_rfl) (by kernel_rfl) (by kernel_rfl) (by kernel_rfl)) (di_rng1 gl_of T.m_range (de_var (pvl 2))) (blkOk_by (by kernel_rfl)) (by decide) (fun _ _ _ _ _ => (dg_name (i := 10) sc_law_order.nd (by kernel_rfl) (.inl (by kernel_rfl)) (.inr (by kernel_rfl)))) (fun _ _ _ _ _ => dts_nil) (fun _ _ _ _ _ => (de_var (pvl 10))))
  (dss_cons (ds_frzN 4 (ds_frzN 3 (ds_for passes_cx rfl (di_rng1 gl_of T.m_range (de_var (pvl 2))) (dg_name (i := 5) sc_law_order.nd (by kernel_rfl) (.inl (by kernel_rfl)) (.inl rfl)) (dss_one (ds_append (pvl 3) (de_popAt (pvl 4) (de_callLG (ok_law_next T) (hr.mono (by decide)) gl_of T.m__law_next takes_cx (da_lent (pvl 0) (da_cons (de_len gl_of T.m_len PySem.boot_len (dp_peek (pvl 4))) da_nil)))))) (by decide))))
  (dss_cons (ds_set (i := 6) sc_law_order.nd (by kernel_rfl) (.inl (by kernel_rfl)) (de_add de_int (de_callLG (ok_law_next T) (hr.mono (by decide)) gl_of T.m__law_next takes_cx (da_lent (pvl 0) (da_cons de_int da_nil)))))
  (dss_cons (ds_set (i := 7) sc_law_order.nd (by kernel_rfl) (.inl (by kernel_rfl)) (de_lst da_nil))
  (dss_cons (ds_frzN 7 (ds_for passes_cx rfl (di_rng1 gl_of T.m_range (de_var (pvl 2))) (dg_name (i := 8) sc_law_order.nd (by kernel_rfl) (.inl (by kernel_rfl)) (.inl rfl)) (dss_one (ds_for passes_cx rfl (di_rng1 gl_of T.m_range (de_var (pvl 8))) (dg_name (i := 9) sc_law_order.nd (by kernel_rfl) (.inl (by kernel_rfl)) (.inl rfl)) (dss_one (ds_if (dt_cr (cr_eq hr.units) (de_callLG (ok_law_next T) (hr.mono (by decide)) gl_of T.m__law_next takes_cx (da_lent (pvl 0) (da_cons (de_var (pvl 6)) da_nil))) de_int) (dss_one (ds_append (pvl 7) (de_tup (da_cons (de_ix (de_var (pvl 3)) (de_var (pvl 9))) (da_cons (de_ix (de_var (pvl 3)) (de_var (pvl 8))) da_nil))))) dss_nil)) (by decide))) (by decide)))
  (dss_one (ds_ret (de_makeG T.c_Order T.k_Order (ok_OrderU_initU T) (hr.mono (by decide)) gl_of T.m_Order takes_cx (da_cons (de_var (pvl 2)) (da_cons (de_var (pvl 7)) da_nil))))))))))))
theorem ok_Order_size (T : TX P K mg) : OkC P w K mg base (He.fAd K ("Order", some "size")) ["self"] 1 (spF K (He.ga K) 1 none DC.F_Order_size) := fn_okD (kio := none) (body := DC.B_Order_size) T.d_Order_size sc_Order_size bi_Order_size fun cdv A outer s H E hr =>
  (dss_one (ds_ret (de_fld (dp_de (de_var (pvl 0))))))
theorem ok_set_of (T : TX P K mg) : OkC P w K mg base (He.fAd K ("set_of", none)) ["points"] 1 (spF K (He.ga K) 1 none DC.F_set_of) := fn_okD (kio := none) (body := DC.B_set_of) T.d_set_of sc_set_of bi_set_of fun cdv A outer s H E hr =>
  (dss_cons (ds_set (i := 1) sc_set_of.nd (by kernel_rfl) (.inl (by kernel_rfl)) de_int)
  (dss_cons (ds_for passes_cx rfl (di_of (de_var (pvl 0))) (dg_name (i := 2) sc_set_of.nd (by kernel_rfl) (.inl (by kernel_rfl)) (.inl rfl)) (dss_one (ds_set (i := 1) sc_set_of.nd (by kernel_rfl) (.inl (by kernel_rfl)) (de_or (de_var (pvl 1)) (de_shl de_int (de_var (pvl 2)))))) (by decide))
  (dss_one (ds_ret (de_var (pvl 1))))))
theorem ok_Order_below (T : TX P K mg) : OkC P w K mg base (He.fAd K ("Order", some "below")) ["self"] 2 (spF K (He.ga K) 1 none DC.F_Order_below) := fn_okD (kio := none) (body := DC.B_Order_below) T.d_Order_below sc_Order_below bi_Order_below fun cdv A outer s H E hr =>
  (dss_one (ds_ret (de_tuple gl_of T.m_tuple PySem.Pv.boot_tuple (dp_de (de_lc (own := [("y", 1)]) rfl sc_Order_below.nd (di_rng1 gl_of T.m_range (de_fld (dp_de (de_var (pvc 0))))) (blkOk_by (by kernel_rfl)) (by decide) (fun _ _ _ _ _ => (dg_name (i := 1) sc_Order_below.nd (by kernel_rfl) (.inr (by kernel_rfl)) (.inl (by kernel_rfl)))) (fun _ _ _ _ _ => dts_nil) (fun _ _ _ _ _ => (de_callG (ok_set_of T) (hr.mono (by decide)) gl_of T.m_set_of takes0 (da_cons (de_lc (own := [("x", 2)]) rfl sc_Order_below.nd (di_rng1 gl_of T.m_range (de_fld (dp_de (de_var (pvc 0))))) (blkOk_by (by kernel_rfl)) (by decide) (fun _ _ _ _ _ => (dg_name (i := 2) sc_Order_below.nd (by kernel_rfl) (.inl (by kernel_rfl)) (.inr (by kernel_rfl)))) (fun _ _ _ _ _ => (dts_one (dt_val (de_callG (ok_has T) (hr.mono (by decide)) gl_of T.m_has takes0 (da_cons (de_ix (de_fld (dp_de (de_var (pvc 0)))) (de_var (pvl 2))) (da_cons (de_var (pvc 1)) da_nil)))))) (fun _ _ _ _ _ => (de_var (pvl 2)))) da_nil))))))))
theorem ok_members (T : TX P K mg) : OkC P w K mg base (He.fAd K ("members", none)) ["bits"] 1 (spF K (He.ga K) 1 none DC.F_members) := fn_okD (kio := none) (body := DC.B_members) T.d_members sc_members bi_members fun cdv A outer s H E hr =>
  (dss_one (ds_ret (de_tuple gl_of T.m_tuple PySem.Pv.boot_tuple (dp_de (de_lc (own := [("x", 1)]) rfl sc_members.nd (di_rng1 gl_of T.m_range (de_bits (de_var (pvc 0)))) (blkOk_by (by kernel_rfl)) (by decide) (fun _ _ _ _ _ => (dg_name (i := 1) sc_members.nd (by kernel_rfl) (.inl (by kernel_rfl)) (.inr (by kernel_rfl)))) (fun _ _ _ _ _ => (dts_one (dt_cr (cr_eq hr.units) (de_and (de_shr (de_var (pvc 0)) (de_var (pvl 1))) de_int) de_int))) (fun _ _ _ _ _ => (de_var (pvl 1))))))))
theorem ok_following_points (T : TX P K mg) : OkC P w K mg base (He.fAd K ("following_points", none)) ["below", "whole", "front"] 2 (spF K (He.ga K) 3 none DC.F_following_points) := fn_okD (kio := none) (body := DC.B_following_points) T.d_following_points sc_following_points bi_following_points fun cdv A outer s H E hr =>
  (dss_one (ds_ret (de_lc (own := [("x", 3)]) rfl sc_following_points.nd (di_of (de_callG (ok_members T) (hr.mono (by decide)) gl_of T.m_members takes_cx (da_cons (de_and (de_var (pvl 1)) (de_inv (de_var (pvc 2)))) da_nil))) (blkOk_by (by kernel_rfl)) (by decide) (fun _ _ _ _ _ => (dg_name (i := 3) sc_following_points.nd (by kernel_rfl) (.inl (by kernel_rfl)) (.inr (by kernel_rfl)))) (fun _ _ _ _ _ => (dts_one (dt_cr (cr_eq hr.units) (de_and (de_ix (de_var (pvc 0)) (de_var (pvl 3))) (de_inv (de_var (pvc 2)))) de_int))) (fun _ _ _ _ _ => (de_var (pvl 3))))))
theorem ok_ways_on (T : TX P K mg) : OkC P w K mg base (He.fAd K ("ways_on", none)) ["order"] 3 (spF K (He.ga K) 1 none DC.F_ways_on) := fn_okD (kio := none) (body := DC.B_ways_on) T.d_ways_on sc_ways_on bi_ways_on fun cdv A outer s H E hr =>
  (dss_cons (ds_set (i := 1) sc_ways_on.nd (by kernel_rfl) (.inl (by kernel_rfl)) (de_meth0G (de_var (pvl 0)) T.c_Order T.q_Order_below (ok_Order_below T) (hr.mono (by decide)) takes_cx))
  (dss_cons (ds_set (i := 2) sc_ways_on.nd (by kernel_rfl) (.inl (by kernel_rfl)) (de_callG (ok_set_of T) (hr.mono (by decide)) gl_of T.m_set_of takes_cx (da_cons (de_listRng rfl gl_of T.m_list gl_of T.m_range (de_meth0G (de_var (pvl 0)) T.c_Order T.q_Order_size (ok_Order_size T) (hr.mono (by decide)) takes_cx)) da_nil)))
  (dss_cons (ds_set (i := 3) sc_ways_on.nd (by kernel_rfl) (.inl (by kernel_rfl)) (de_lst (da_cons (de_fz (de_lst (da_cons de_int da_nil))) da_nil)))
  (dss_cons (ds_frzN 3 (ds_for passes_cx rfl (di_rng1 gl_of T.m_range (de_meth0G (de_var (pvl 0)) T.c_Order T.q_Order_size (ok_Order_size T) (hr.mono (by decide)) takes_cx)) (dg_name (i := 4) sc_ways_on.nd (by kernel_rfl) (.inl (by kernel_rfl)) (.inl rfl)) (dss_cons (ds_set (i := 7) sc_ways_on.nd (by kernel_rfl) (.inl (by kernel_rfl)) (de_lst da_nil))
  (dss_cons (ds_frzN 7 (ds_for passes_cx rfl (di_of (de_ixS (pvl 3) (de_neg de_int))) (dg_name (i := 8) sc_ways_on.nd (by kernel_rfl) (.inr (by kernel_rfl)) (.inl rfl)) (dss_one (ds_for passes_cx rfl (di_of (de_fz (de_callG (ok_following_points T) (hr.mono (by decide)) gl_of T.m_following_points takes_cx (da_cons (de_var (pvl 1)) (da_cons (de_var (pvl 2)) (da_cons (de_var (pvc 8)) da_nil)))))) (dg_name (i := 9) sc_ways_on.nd (by kernel_rfl) (.inl (by kernel_rfl)) (.inl rfl)) (dss_one (ds_if (dt_notin (room_u1 hr) (de_or (de_var (pvc 8)) (de_shl de_int (de_var (pvl 9)))) (dp_peek (pvl 7))) (dss_one (ds_append (pvl 7) (de_or (de_var (pvc 8)) (de_shl de_int (de_var (pvl 9)))))) dss_nil)) (by decide))) (by decide)))
  (dss_one (ds_append (pvl 3) (de_var (pvl 7)))))) (by decide)))
  (dss_cons (ds_set (i := 5) sc_ways_on.nd (by kernel_rfl) (.inr (by kernel_rfl)) (de_disp1 (de_var (pvl 2)) de_int (pps_cons (de_var (pvl 2)) de_int pps_nil)))
  (dss_cons (ds_frzN 5 (ds_for passes_cx rfl (di_of (de_fz (de_revA (de_slice (de_var (pvl 3)) do_none (do_some (de_neg de_int)))))) (dg_name (i := 6) sc_ways_on.nd (by kernel_rfl) (.inl (by kernel_rfl)) (.inl rfl)) (dss_one (ds_for passes_cx rfl (di_of (de_var (pvl 6))) (dg_name (i := 8) sc_ways_on.nd (by kernel_rfl) (.inr (by kernel_rfl)) (.inl rfl)) (dss_one (ds_dput (room_u0 hr) (de_sum rfl gl_of T.m_sum (dp_de (de_lc (own := [("x", 9)]) rfl sc_ways_on.nd (di_of (de_fz (de_callG (ok_following_points T) (hr.mono (by decide)) gl_of T.m_following_points takes_cx (da_cons (de_var (pvl 1)) (da_cons (de_var (pvl 2)) (da_cons (de_var (pvc 8)) da_nil)))))) (blkOk_by (by kernel_rfl)) (by decide) (fun _ _ _ _ _ => (dg_name (i := 9) sc_ways_on.nd (by kernel_rfl) (.inl (by kernel_rfl)) (.inr (by kernel_rfl)))) (fun _ _ _ _ _ => dts_nil) (fun _ _ _ _ _ => (de_dget (room_u0 hr) (pvc 5) (de_or (de_var (pvc 8)) (de_shl de_int (de_var (pvl 9))))))))) (pvc 5) (de_var (pvc 8)))) (by decide))) (by decide)))
  (dss_one (ds_ret (de_var (pvc 5))))))))))
theorem ok_count_linear (T : TX P K mg) : OkC P w K mg base (He.fAd K ("count_linear", none)) ["order"] 4 (spF K (He.ga K) 1 none DC.F_count_linear) := fn_okD (kio := none) (body := DC.B_count_linear) T.d_count_linear sc_count_linear bi_count_linear fun cdv A outer s H E hr =>
  (dss_one (ds_ret (de_dgetE (room_u0 hr) (de_callG (ok_ways_on T) (hr.mono (by decide)) gl_of T.m_ways_on takes_cx (da_cons (de_var (pvl 0)) da_nil)) de_int)))
theorem ok_all_linear (T : TX P K mg) : OkC P w K mg base (He.fAd K ("all_linear", none)) ["order"] 5 (spF K (He.ga K) 1 none DC.F_all_linear) := fn_okD (kio := none) (body := DC.B_all_linear) T.d_all_linear sc_all_linear bi_all_linear fun cdv A outer s H E hr =>
  (dss_cons (ds_set (i := 1) sc_all_linear.nd (by kernel_rfl) (.inl (by kernel_rfl)) (de_callG (ok_count_linear T) (hr.mono (by decide)) gl_of T.m_count_linear takes_cx (da_cons (de_var (pvl 0)) da_nil)))
  (dss_cons (ds_if (dt_cr cr_gt (de_var (pvl 1)) de_int) (dss_one (ds_raiseV rfl takes_cx (T.r_Refused _ _) (hr.mono (by decide)) gl_of T.m_Refused de_str)) dss_nil)
  (dss_cons (ds_set (i := 2) sc_all_linear.nd (by kernel_rfl) (.inl (by kernel_rfl)) (de_meth0G (de_var (pvl 0)) T.c_Order T.q_Order_below (ok_Order_below T) (hr.mono (by decide)) takes_cx))
  (dss_cons (ds_set (i := 3) sc_all_linear.nd (by kernel_rfl) (.inl (by kernel_rfl)) (de_callG (ok_set_of T) (hr.mono (by decide)) gl_of T.m_set_of takes_cx (da_cons (de_listRng rfl gl_of T.m_list gl_of T.m_range (de_meth0G (de_var (pvl 0)) T.c_Order T.q_Order_size (ok_Order_size T) (hr.mono (by decide)) takes_cx)) da_nil)))
  (dss_cons (ds_set (i := 4) sc_all_linear.nd (by kernel_rfl) (.inl (by kernel_rfl)) (de_fz (de_lst (da_cons (de_tup da_nil) da_nil))))
  (dss_cons (ds_for passes_cx rfl (di_rng1 gl_of T.m_range (de_meth0G (de_var (pvl 0)) T.c_Order T.q_Order_size (ok_Order_size T) (hr.mono (by decide)) takes_cx)) (dg_name (i := 5) sc_all_linear.nd (by kernel_rfl) (.inl (by kernel_rfl)) (.inl rfl)) (dss_cons (ds_set (i := 6) sc_all_linear.nd (by kernel_rfl) (.inl (by kernel_rfl)) (de_lst da_nil))
  (dss_cons (ds_frzN 6 (ds_for passes_cx rfl (di_of (de_fz (de_list gl_of T.m_list PySem.Pv.boot_list (dp_de (de_var (pvl 4)))))) (dg_name (i := 7) sc_all_linear.nd (by kernel_rfl) (.inl (by kernel_rfl)) (.inl rfl)) (dss_one (ds_for passes_cx rfl (di_of (de_fz (de_callG (ok_following_points T) (hr.mono (by decide)) gl_of T.m_following_points takes_cx (da_cons (de_var (pvl 2)) (da_cons (de_var (pvl 3)) (da_cons (de_callG (ok_set_of T) (hr.mono (by decide)) gl_of T.m_set_of takes_cx (da_cons (de_var (pvl 7)) da_nil)) da_nil)))))) (dg_name (i := 8) sc_all_linear.nd (by kernel_rfl) (.inl (by kernel_rfl)) (.inl rfl)) (dss_one (ds_append (pvl 6) (de_add (de_var (pvl 7)) (de_tup (da_cons (de_var (pvl 8)) da_nil))))) (by decide))) (by decide)))
  (dss_one (ds_set (i := 4) sc_all_linear.nd (by kernel_rfl) (.inl (by kernel_rfl)) (de_var (pvl 6)))))) (by decide))
  (dss_one (ds_ret (de_tuple gl_of T.m_tuple PySem.Pv.boot_tuple (dp_de (de_var (pvl 4))))))))))))
theorem ok_OrderU_eqU (T : TX P K mg) : OkC P w K mg base (He.fAd K ("Order", some "__eq__")) ["self", "other"] 1 (spF K (He.ga K) 2 none DC.F_OrderU_eqU) := fn_okD (kio := none) (body := DC.B_OrderU_eqU) T.d_OrderU_eqU sc_OrderU_eqU bi_OrderU_eqU fun cdv A outer s H E hr =>
  (dss_one (ds_ret (de_and2 (de_isiA (C := "Order") T.x_Order T.kn_Order gl_of T.m_isinstance gl_of T.m_Order (dp_de (de_var (pvl 1)))) (de_and2 (de_cr (cr_eq hr.units) (de_fld (dp_de (de_var (pvl 0)))) (de_fld (dp_de (de_var (pvl 1))))) (de_one (de_cr (cr_eq hr.units) (de_fld (dp_de (de_var (pvl 0)))) (de_fld (dp_de (de_var (pvl 1))))))))))
theorem ok_is_row (T : TX P K mg) : OkC P w K mg base (He.fAd K ("is_row", none)) ["value", "size"] 2 (spF K (He.ga K) 2 none DC.F_is_row) := fn_okD (kio := none) (body := DC.B_is_row) T.d_is_row sc_is_row bi_is_row fun cdv A outer s H E hr =>
  (dss_cons (ds_if (dt_w (dw_or (dt_not (dt_val (de_isi (T := "tuple") gl_of T.m_isinstance gl_of T.m_tuple PySem.Pv.boot_tuple (by decide) (dp_de (de_var (pvl 0)))))) (dw_or1 (dt_cr (cr_ne hr.units) (de_len gl_of T.m_len PySem.boot_len (dp_de (de_var (pvl 0)))) (de_var (pvl 1)))))) (dss_one (ds_ret de_bl)) dss_nil)
  (dss_one (ds_ret (de_and2 (de_all rfl gl_of T.m_all (dp_de (de_lc (own := [("x", 2)]) rfl sc_is_row.nd (di_of (de_var (pvl 0))) (blkOk_by (by kernel_rfl)) (by decide) (fun _ _ _ _ _ => (dg_name (i := 2) sc_is_row.nd (by kernel_rfl) (.inl (by kernel_rfl)) (.inr (by kernel_rfl)))) (fun _ _ _ _ _ => dts_nil) (fun _ _ _ _ _ => (de_callG (ok_is_integer T) (hr.mono (by decide)) gl_of T.m_is_integer takes0 (da_cons (de_var (pvl 2)) da_nil)))))) (de_one (de_cr (cr_eq hr.units) (de_sortT gl_of T.m_sorted (dp_de (de_var (pvl 0)))) (de_listRng rfl gl_of T.m_list gl_of T.m_range (de_var (pvl 1)))))))))
theorem ok_common_part (T : TX P K mg) : OkC P w K mg base (He.fAd K ("common_part", none)) ["rows"] 6 (spF K (He.ga K) 1 none DC.F_common_part_v2) := fn_okD (kio := none) (body := DC.B_common_part_v2) T.d_common_part sc_common_part bi_common_part fun cdv A outer s H E hr =>
  (dss_cons (ds_if (dt_w (dw_or (dt_not (dt_val (de_isi (T := "tuple") gl_of T.m_isinstance gl_of T.m_tuple PySem.Pv.boot_tuple (by decide) (dp_de (de_var (pvl 0)))))) (dw_or (dt_cr (cr_eq hr.units) (de_len gl_of T.m_len PySem.boot_len (dp_de (de_var (pvl 0)))) de_int) (dw_or1 (dt_not (dt_val (de_isi (T := "tuple") gl_of T.m_isinstance gl_of T.m_tuple PySem.Pv.boot_tuple (by decide) (dp_de (de_ix (de_var (pvl 0)) de_int))))))))) (dss_one (ds_raise rfl takes_cx T.e_Malformed gl_of T.m_Malformed)) dss_nil)
  (dss_cons (ds_set (i := 1) sc_common_part.nd (by kernel_rfl) (.inl (by kernel_rfl)) (de_len gl_of T.m_len PySem.boot_len (dp_de (de_ix (de_var (pvl 0)) de_int))))
  (dss_cons (ds_for passes_cx rfl (di_of (de_var (pvl 0))) (dg_name (i := 2) sc_common_part.nd (by kernel_rfl) (.inl (by kernel_rfl)) (.inl rfl)) (dss_one (ds_if (dt_not (dt_val (de_callG (ok_is_row T) (hr.mono (by decide)) gl_of T.m_is_row takes_cx (da_cons (de_var (pvl 2)) (da_cons (de_var (pvl 1)) da_nil))))) (dss_one (ds_raise rfl takes_cx T.e_Malformed gl_of T.m_Malformed)) dss_nil)) (by decide))
  (dss_cons (ds_set (i := 3) sc_common_part.nd (by kernel_rfl) (.inl (by kernel_rfl)) (de_lst da_nil))
  (dss_cons (ds_frzN 3 (ds_for passes_cx rfl (di_rng1 gl_of T.m_range (de_var (pvl 1))) (dg_name (i := 4) sc_common_part.nd (by kernel_rfl) (.inr (by kernel_rfl)) (.inl rfl)) (dss_one (ds_for passes_cx rfl (di_rng1 gl_of T.m_range (de_var (pvl 1))) (dg_name (i := 5) sc_common_part.nd (by kernel_rfl) (.inr (by kernel_rfl)) (.inl rfl)) (dss_one (ds_if (dt_w (dw_and (dt_cr (cr_ne hr.units) (de_var (pvc 4)) (de_var (pvc 5))) (dw_and1 (dt_val (de_all rfl gl_of T.m_all (dp_de (de_lc (own := [("row", 2)]) rfl sc_common_part.nd (di_of (de_var (pvl 0))) (blkOk_by (by kernel_rfl)) (by decide) (fun _ _ _ _ _ => (dg_name (i := 2) sc_common_part.nd (by kernel_rfl) (.inl (by kernel_rfl)) (.inr (by kernel_rfl)))) (fun _ _ _ _ _ => dts_nil) (fun _ _ _ _ _ => (de_cr cr_lt (de_indexT (room_u1 hr) (de_var (pvl 2)) (de_var (pvc 4))) (de_indexT (room_u1 hr) (de_var (pvl 2)) (de_var (pvc 5)))))))))))) (dss_one (ds_append (pvl 3) (de_tup (da_cons (de_var (pvc 4)) (da_cons (de_var (pvc 5)) da_nil))))) dss_nil)) (by decide))) (by decide)))
  (dss_one (ds_ret (de_makeG T.c_Order T.k_Order (ok_OrderU_initU T) (hr.mono (by decide)) gl_of T.m_Order takes_cx (da_cons (de_var (pvl 1)) (da_cons (de_var (pvl 3)) da_nil))))))))))
theorem ok_law_refuses (T : TX P K mg) : OkC P w K mg base (He.fAd K ("_law_refuses", none)) ["_law_rows"] 7 (spF K (He.ga K) 1 none DC.F_law_refuses_v2) := fn_okD (kio := none) (body := DC.B_law_refuses_v2) T.d_law_refuses sc_law_refuses bi_law_refuses fun cdv A outer s H E hr =>
  (dss_one (ds_try rfl rfl sc_law_refuses.nd takes_cx (fun _ pn xe tk pa => (dss_cons (ds_expr (de_callG (ok_common_part T) (hr.mono (by decide)) gl_of T.m_common_part tk (da_cons (de_var (pvl 0)) da_nil)))
  (dss_one (ds_ret de_bl)))) (.cons ⟨gl_of, by kernel_rfl, .inl T.m_Malformed⟩ (matches_cons T.xm_Malformed_Malformed (matches_cons T.xm_Refused_Malformed matches_nil)) (fun a oe cls d pn hz hf => (dss_one (ds_ret de_bl))) .nil)))
theorem ok_Order_less (T : TX P K mg) : OkC P w K mg base (He.fAd K ("Order", some "less")) ["self", "x", "y"] 2 (spF K (He.ga K) 3 none DC.F_Order_less) := fn_okD (kio := none) (body := DC.B_Order_less) T.d_Order_less sc_Order_less bi_Order_less fun cdv A outer s H E hr =>
  (dss_one (ds_ret (de_callG (ok_has T) (hr.mono (by decide)) gl_of T.m_has takes_cx (da_cons (de_ix (de_fld (dp_de (de_var (pvl 0)))) (de_var (pvl 1))) (da_cons (de_var (pvl 2)) da_nil)))))
theorem ok_Order_pairs (T : TX P K mg) : OkC P w K mg base (He.fAd K ("Order", some "pairs")) ["self"] 2 (spF K (He.ga K) 1 none DC.F_Order_pairs) := fn_okD (kio := none) (body := DC.B_Order_pairs) T.d_Order_pairs sc_Order_pairs bi_Order_pairs fun cdv A outer s H E hr =>
  (dss_cons (ds_set (i := 1) sc_Order_pairs.nd (by kernel_rfl) (.inl (by kernel_rfl)) (de_lst da_nil))
  (dss_cons (ds_frzN 1 (ds_for passes_cx rfl (di_rng1 gl_of T.m_range (de_fld (dp_de (de_var (pvl 0))))) (dg_name (i := 2) sc_Order_pairs.nd (by kernel_rfl) (.inl (by kernel_rfl)) (.inl rfl)) (dss_one (ds_for passes_cx rfl (di_of (de_callG (ok_members T) (hr.mono (by decide)) gl_of T.m_members takes_cx (da_cons (de_ix (de_fld (dp_de (de_var (pvl 0)))) (de_var (pvl 2))) da_nil))) (dg_name (i := 3) sc_Order_pairs.nd (by kernel_rfl) (.inl (by kernel_rfl)) (.inl rfl)) (dss_one (ds_append (pvl 1) (de_tup (da_cons (de_var (pvl 2)) (da_cons (de_var (pvl 3)) da_nil))))) (by decide))) (by decide)))
  (dss_one (ds_ret (de_tuple gl_of T.m_tuple PySem.Pv.boot_tuple (dp_de (de_var (pvl 1))))))))
theorem ok_count_before (T : TX P K mg) : OkC P w K mg base (He.fAd K ("count_before", none)) ["order", "x", "y"] 6 (spF K (He.ga K) 3 none DC.F_count_before) := fn_okD (kio := none) (body := DC.B_count_before) T.d_count_before sc_count_before bi_count_before fun cdv A outer s H E hr =>
  (dss_cons (ds_if (dt_w (dw_or (dt_cr (cr_eq hr.units) (de_var (pvl 1)) (de_var (pvl 2))) (dw_or1 (dt_val (de_methG (de_var (pvl 0)) T.c_Order T.q_Order_less (ok_Order_less T) (hr.mono (by decide)) takes_cx (da_cons (de_var (pvl 2)) (da_cons (de_var (pvl 1)) da_nil))))))) (dss_one (ds_ret de_int)) dss_nil)
  (dss_one (ds_ret (de_callG (ok_count_linear T) (hr.mono (by decide)) gl_of T.m_count_linear takes_cx (da_cons (de_makeG T.c_Order T.k_Order (ok_OrderU_initU T) (hr.mono (by decide)) gl_of T.m_Order takes_cx (da_cons (de_meth0G (de_var (pvl 0)) T.c_Order T.q_Order_size (ok_Order_size T) (hr.mono (by decide)) takes_cx) (da_cons (de_add (de_list gl_of T.m_list PySem.Pv.boot_list (dp_de (de_meth0G (de_var (pvl 0)) T.c_Order T.q_Order_pairs (ok_Order_pairs T) (hr.mono (by decide)) takes_cx))) (de_lst (da_cons (de_tup (da_cons (de_var (pvl 1)) (da_cons (de_var (pvl 2)) da_nil))) da_nil))) da_nil))) da_nil)))))
theorem ok_law (T : TX P K mg) {fd : FuncData} {fa : Addr} (FD : FunD K d_law.name d_law.qual d_law.params d_law.body d_law.scope [] [] fa fd) : FnOk P w K mg base (L2.CX P w) 8 fa fd ["_law_script"] (spF K (He.ga K) 1 none F_law) := fn_okF (kio := none) (body := B_law) FD sc_law fun cdv A outer s H E hr =>
  (dss_cons (ds_set (i := 1) sc_law.nd (by kernel_rfl) (.inr (by kernel_rfl)) (de_callG (ok_law_numbers T) (hr.mono (by decide)) gl_of T.m__law_numbers takes_cx (da_cons (de_var (pvl 0)) da_nil)))
  (dss_cons (ds_set (i := 2) sc_law.nd (by kernel_rfl) (.inl (by kernel_rfl)) (de_fz (de_callLG (ok_law_order T) (hr.mono (by decide)) gl_of T.m__law_order takes_cx (da_lent (pvc 1) (da_cons de_int da_nil)))))
  (dss_cons (ds_set (i := 3) sc_law.nd (by kernel_rfl) (.inl (by kernel_rfl)) (de_meth0G (de_var (pvl 2)) T.c_Order T.q_Order_size (ok_Order_size T) (hr.mono (by decide)) takes_cx))
  (dss_cons (ds_set (i := 4) sc_law.nd (by kernel_rfl) (.inr (by kernel_rfl)) (de_callG (ok_all_linear T) (hr.mono (by decide)) gl_of T.m_all_linear takes_cx (da_cons (de_var (pvl 2)) da_nil)))
  (dss_cons (ds_for passes_cx rfl (di_rng1 gl_of T.m_range (de_var (pvl 3))) (dg_name (i := 5) sc_law.nd (by kernel_rfl) (.inr (by kernel_rfl)) (.inl rfl)) (dss_one (ds_for passes_cx rfl (di_rng1 gl_of T.m_range (de_var (pvl 3))) (dg_name (i := 8) sc_law.nd (by kernel_rfl) (.inr (by kernel_rfl)) (.inl rfl)) (dss_cons (ds_set (i := 9) sc_law.nd (by kernel_rfl) (.inl (by kernel_rfl)) (de_len gl_of T.m_len PySem.boot_len (dp_de (de_lc (own := [("_law_row", 11)]) rfl sc_law.nd (di_of (de_var (pvc 4))) (blkOk_by (by kernel_rfl)) (by decide) (fun _ _ _ _ _ => (dg_name (i := 11) sc_law.nd (by kernel_rfl) (.inl (by kernel_rfl)) (.inr (by kernel_rfl)))) (fun _ _ _ _ _ => (dts_one (dt_cr cr_lt (de_indexT (room_u1 hr) (de_var (pvl 11)) (de_var (pvc 5))) (de_indexT (room_u1 hr) (de_var (pvl 11)) (de_var (pvc 8)))))) (fun _ _ _ _ _ => (de_var (pvl 11)))))))
  (dss_one (ds_if (dt_cr (cr_ne hr.units) (de_callG (ok_count_before T) (hr.mono (by decide)) gl_of T.m_count_before takes_cx (da_cons (de_var (pvl 2)) (da_cons (de_var (pvc 5)) (da_cons (de_var (pvc 8)) da_nil)))) (de_var (pvl 9))) (dss_one (ds_ret de_bl)) dss_nil))) (by decide))) (by decide))
  (dss_cons (ds_if (dt_cr (cr_ownNe (C := "Order") (ok_OrderU_eqU T) (hr.mono (by decide)) T.q_OrderU_eqU T.x_Order.noNe) (de_fz (de_callG (ok_common_part T) (hr.mono (by decide)) gl_of T.m_common_part takes_cx (da_cons (de_var (pvc 4)) da_nil))) (de_var (pvl 2))) (dss_one (ds_ret de_bl)) dss_nil)
  (dss_cons (ds_frzN 1 (ds_set (i := 6) sc_law.nd (by kernel_rfl) (.inl (by kernel_rfl)) (de_tuple gl_of T.m_tuple PySem.Pv.boot_tuple (dp_de (de_lc (own := [("_law_turn", 10)]) rfl sc_law.nd (di_rng1 gl_of T.m_range (de_add de_int (de_callLG (ok_law_next T) (hr.mono (by decide)) gl_of T.m__law_next takes_cx (da_lent (pvc 1) (da_cons de_int da_nil))))) (blkOk_by (by kernel_rfl)) (by decide) (fun _ _ _ _ _ => (dg_name (i := 10) sc_law.nd (by kernel_rfl) (.inl (by kernel_rfl)) (.inr (by kernel_rfl)))) (fun _ _ _ _ _ => dts_nil) (fun _ _ _ _ _ => (de_ix (de_var (pvc 4)) (de_callLG (ok_law_next T) (hr.mono (by decide)) gl_of T.m__law_next takes0 (da_lent (pvc 1) (da_cons (de_len gl_of T.m_len PySem.boot_len (dp_de (de_var (pvc 4)))) da_nil))))))))))
  (dss_cons (ds_set (i := 7) sc_law.nd (by kernel_rfl) (.inl (by kernel_rfl)) (de_fz (de_callG (ok_common_part T) (hr.mono (by decide)) gl_of T.m_common_part takes_cx (da_cons (de_var (pvl 6)) da_nil))))
  (dss_cons (ds_for passes_cx rfl (di_rng1 gl_of T.m_range (de_var (pvl 3))) (dg_name (i := 5) sc_law.nd (by kernel_rfl) (.inr (by kernel_rfl)) (.inl rfl)) (dss_one (ds_for passes_cx rfl (di_rng1 gl_of T.m_range (de_var (pvl 3))) (dg_name (i := 8) sc_law.nd (by kernel_rfl) (.inr (by kernel_rfl)) (.inl rfl)) (dss_cons (ds_set (i := 9) sc_law.nd (by kernel_rfl) (.inl (by kernel_rfl)) (de_and2 (de_cr (cr_ne hr.units) (de_var (pvc 5)) (de_var (pvc 8))) (de_one (de_cr (cr_eq hr.units) (de_len gl_of T.m_len PySem.boot_len (dp_de (de_lc (own := [("_law_row", 11)]) rfl sc_law.nd (di_of (de_var (pvl 6))) (blkOk_by (by kernel_rfl)) (by decide) (fun _ _ _ _ _ => (dg_name (i := 11) sc_law.nd (by kernel_rfl) (.inl (by kernel_rfl)) (.inr (by kernel_rfl)))) (fun _ _ _ _ _ => (dts_one (dt_cr cr_gt (de_indexT (room_u1 hr) (de_var (pvl 11)) (de_var (pvc 5))) (de_indexT (room_u1 hr) (de_var (pvl 11)) (de_var (pvc 8)))))) (fun _ _ _ _ _ => (de_var (pvl 11)))))) de_int))))
  (dss_one (ds_if (dt_cr (cr_ne hr.units) (de_methG (de_var (pvl 7)) T.c_Order T.q_Order_less (ok_Order_less T) (hr.mono (by decide)) takes_cx (da_cons (de_var (pvc 5)) (da_cons (de_var (pvc 8)) da_nil))) (de_var (pvl 9))) (dss_one (ds_ret de_bl)) dss_nil))) (by decide))) (by decide))
  (dss_cons (ds_if (dt_w (dw_or (dt_not (dt_val (de_callG (ok_law_refuses T) (hr.mono (by decide)) gl_of T.m__law_refuses takes_cx (da_cons (de_tup da_nil) da_nil)))) (dw_or (dt_not (dt_val (de_callG (ok_law_refuses T) (hr.mono (by decide)) gl_of T.m__law_refuses takes_cx (da_cons de_non da_nil)))) (dw_or1 (dt_not (dt_val (de_callG (ok_law_refuses T) (hr.mono (by decide)) gl_of T.m__law_refuses takes_cx (da_cons (de_tup (da_cons (de_ix (de_var (pvc 4)) de_int) (da_cons (de_add (de_ix (de_var (pvc 4)) de_int) (de_tup (da_cons (de_var (pvl 3)) da_nil))) da_nil))) da_nil)))))))) (dss_one (ds_ret de_bl)) dss_nil)
  (dss_one (ds_ret (de_and2 (de_callG (ok_law_refuses T) (hr.mono (by decide)) gl_of T.m__law_refuses takes_cx (da_cons (de_tup (da_cons (de_tup (da_cons de_int (da_cons de_int da_nil))) da_nil)) da_nil)) (de_one (de_callG (ok_law_refuses T) (hr.mono (by decide)) gl_of T.m__law_refuses takes_cx (da_cons (de_tup (da_cons (de_lst (da_cons de_int da_nil)) da_nil)) da_nil))))))))))))))))
end
end G33
namespace G33
open PySem L2 DL PyProof.Rows
def names0 : List PySem.Str := ["_wall", "Fault", "Malformed", "Refused", "is_integer", "members", "set_of", "has", "MOST", "_checked_pairs", "_closed", "Order", "is_row", "ways_on", "following_points", "count_linear", "all_linear", "count_before", "common_part", "_law_numbers"]
def names1 : List PySem.Str := ["_law_next", "_law_order", "_law_refuses"]
def names : List PySem.Str := names0 ++ names1
abbrev R : PySem.W.OpenRow := PySem.W.OpenLaw.row PySem.Challenge.rw_orderforms_k33_points_before_points
abbrev hk : PySem.W.Hook := DL.hookY 6 file fa fn es ys
def ob (s : PySem.W.SharedT) : DL.AlY := DL.obsYG 6 file fa fn es ys (HandSHeadRun.getT s)
theorem ob_eq (s : PySem.W.SharedT) : ob s = hk.obs s.abs := DL.obsYG_eq (HandSHeadRun.getT_eq s)
theorem run (w : World) : HandSHeadRun.RunEq R (PySem.W.view R.prog [28]) hk ob 6000 names w := by
  intro os
  kernel_rfl
theorem facts {P : Program} {w : World} {K : PySem.W.Frag} {h : Heap} {mg : Str → Option Value} {f : Addr} (X : K.In h) (G : h.Ns mainGlobals mg) (hfa : mg ("law" : Str) = some (.ref f)) (c : DL.SaysY file fa fn es ys K) (hpf : P.main.file = file) (hpt : (P.main.scope.names.lookup ("super" : Str)).isSome = false) :
    ∃ fd : FuncData, (∀ (s : Shared) (v : Value), BindsTo s fd ⟨[v], []⟩ [("_law_script", v)]) ∧ ∀ base : Heap, K.In base → base.Ns mainGlobals mg → FnOk P w K mg base (L2.CX P w) 8 f fd ["_law_script"] (spF K (He.ga K) 1 none F_law) := by
  have T : TX P K mg := ⟨c, hpf, hpt, h, X, G⟩
  obtain ⟨fd, F⟩ := T.d_law
  have e := hfa.symm.trans (He.glo_ok X G (c.d.fact 46 (f := .glo "law") rfl))
  cases e
  have b := FunD.bindsA (ps := ["_law_script"]) F fun _ _ _ _ _ _ us hl => match us, hl with | [_], _ => by kernel_rfl
  exact ⟨fd, fun s v => b s [v] rfl, fun base _ _ => ok_law T F⟩
end G33
open PySem PySem.W PySem.Calls PyProof.Rows
set_option maxRecDepth 100000 in
set_option maxHeartbeats 0 in
theorem PySem.Challenge.cw_orderforms_k33_points_before_points_holds : PySem.Challenge.rw_orderforms_k33_points_before_points.Holds := by
  w_on; o_law
  refine HandSHeadRun.head_any (r := OpenLaw.row PySem.Challenge.rw_orderforms_k33_points_before_points) (q := view (OpenLaw.row PySem.Challenge.rw_orderforms_k33_points_before_points).prog [28]) (H := G33.hk) (ob := G33.ob) (M := 6000) (loose := G33.names) (d := HandSHeadRun.topDef (OpenLaw.row PySem.Challenge.rw_orderforms_k33_points_before_points).prog 28) (kwd := []) G33.ob_eq
    (by kernel_rfl) (fun s => by kernel_rfl) G33.run (by kernel_rfl) (by kernel_rfl) (by kernel_rfl) (by rfl) (by first | assumption | decide +kernel) (by decide +kernel) ⟨rfl, rfl, rfl, rfl, rfl, by decide +kernel⟩ ?hw ?hc
  case hw => w_witness2
  case hc =>
    refine DL.law_end (l := PySem.Challenge.rw_orderforms_k33_points_before_points) (k := 8) (x := "_law_script") (cA := He.ga) (F := G33.F_law) rfl (by kernel_rfl) ⟨rfl, by decide, by decide⟩ ?HF G33.law_true
    intro w mg fa h Y G hmg0
    obtain ⟨K, KX, c⟩ := Y
    have hmg : mg ("law" : PySem.Str) = some (.ref fa) := by
      have e : (HandSHeadRun.topDef (OpenLaw.row PySem.Challenge.rw_orderforms_k33_points_before_points).prog 28).name = ("law" : PySem.Str) := by kernel_rfl
      rw [← e]
      exact hmg0
    obtain ⟨fd, hb, hF⟩ := G33.facts (P := (PySem.Challenge.rw_orderforms_k33_points_before_points).prog) (w := w) KX G hmg c (by kernel_rfl) (by kernel_rfl)
    exact ⟨K, fd, KX, hb, hF⟩
