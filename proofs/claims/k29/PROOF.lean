import PyProof.Rows.All
import Wide.All
import OpenK.AllK
import Wide.FinOn
import HandS.ForMost
import HandS.ForExc
import HandS.TupMul
import HandS.TupAny
import HandS.Conv
import HandS.Strs
import HandS.Deep
import HandS.Style
import HandS.WideBits
import HandS.IsInst
import HandS.Text
import HandS.Iter
import HandS.HeadEnd
import HandS.HeadHook2
import HandS.EndBits
import HandS.SortInts
import HandS.More
import HandS.Head0
import HandS.Head1
import HandS.Head2
import HandS.Nested
import HandS.ExcInit
import KE.KExcSuper
import HandS.TryMany
import HandS.ExcField
import HandS.ExcIs
import HandS.ExcOwn
import HandS.List
import OpenK.KMeth
import KE.KOpsOwn
import KE.KTupSum
import KE.GoesEnum
import HandS.TupSets
import HandS.DictComp
import HandS.TupLe
import KE.DatumOrd
import PySem.Challenge.RW_orderforms_k29_whole_order_polynomials
import HandS.HeadHook1
import HandS.GenList
import KE.OsArith
import KE.BitLaws
import KE.IntBitsLaws
set_option Elab.async false
set_option linter.all false
set_option maxRecDepth 100000
set_option maxHeartbeats 0
namespace L2
open PySem PySem.Spec PyProof.Rows
def NewT (H : Hp) (xs : List V) (Q : VK) : Prop := ∀ p ob, H p = none → ob.dict = none → Q (.ref p) (upd H p (.frz ob (.tup xs)))
abbrev tupO (us : List Value) : Obj := { cls := .type "tuple", data := .seq us.toArray }
section
variable {X : Cx} {pins : List (Addr × Obj)} {σ : St} {H : Hp} {s : Shared} {xs ys : List V} {us : List Value} {Q : VK} {tk : Nat}
theorem lay_tup (I : Inv X pins σ H s) (z : xs.length ≤ sizeLine) (r : Vals xs us) (q : NewT H xs Q) : EP X pins σ Q (.ref s.heap.objs.size) { s with heap := s.heap.push (tupO us), toks := tk } := by
  have hn := I.hok.fresh (Nat.le_refl _)
  have ok : ObjOk X.prog X.w (upd H s.heap.objs.size (.frz (tupO us) (.tup xs))) (s.heap.push (tupO us)) s.heap.objs.size (.frz (tupO us) (.tup xs)) :=
    ⟨Heap.get?_push_size _ rfl, z, us, r, IsTup.new s.heap us.toArray⟩
  have J := I.laid (t' := tk) (fun c u => Heap.get?_push_of_some _) (Nat.le_refl _) ok
  exact ⟨V.ref s.heap.objs.size, _, J, rfl, q _ (tupO us) hn rfl⟩
def tTupN (t : TA) : TE := fun σ H Q => t σ H fun xs H1 => xs.length ≤ sizeLine ∧ NewT H1 xs Q
theorem pe_tupN {es : List Expr} {t : TA} {pos : Pos} {x1} (h : PA X es t) : PE X (.Tuple es x1 pos) (tTupN t) := by
  constructor
  intro pins s σ H Q I hq
  apply wpAny_Tuple_spliced
  refine thn (h.run pos pins s σ H _ I hq) ?_
  rintro us s1 ⟨xs, H1, I1, r, z, q⟩
  have hz : us.length ≤ sizeLine := by rw [← r.length]; exact z
  exact ⟨hz, lay_tup (tk := s1.toks) I1 z r q⟩
def rTupOf (K : PySem.W.Frag) : List V → Hp → VK → Prop := fun xs H Q => ∃ p ys, xs = [.ref p] ∧ ((SqL K H p ys ∧ NewT H ys Q) ∨ (SqT K H p ys ∧ Q (.ref p) H))
theorem call_tupleN : CallR X (.type "tuple") (rTupOf X.K) := by
  rintro pins s σ H xs us Q I r ⟨p, ys, rfl, h⟩
  obtain ⟨u, rfl, rx⟩ := vals1 r
  cases rx
  obtain ⟨hq, q⟩ | ⟨hq, q⟩ := h
  · obtain ⟨its, r', pl, hz⟩ := I.list hq
    have hs : its.toArray.size ≤ sizeLine := by rw [List.size_toArray, ← r'.length]; exact hz
    refine call_tuple_list pl.isList (fun h' kp => ?_) hs
    exact lay_tup (tk := s.toks) (s := { s with heap := h' }) (I.kept (t' := s.toks) kp) hz r' q
  · obtain ⟨its, r', pl, hz⟩ := I.tuple hq
    exact call_tuple_same pl ⟨V.ref p, H, I, rfl, q⟩
def rCatN (K : PySem.W.Frag) : R2 := fun x y H Q => ∃ a b xs ys, x = .ref a ∧ y = .ref b ∧ SqT K H a xs ∧ SqT K H b ys ∧ xs.length + ys.length ≤ sizeLine ∧
  (xs = [] → Q (.ref b) H) ∧ (xs ≠ [] → ys = [] → Q (.ref a) H) ∧ (xs ≠ [] → ys ≠ [] → NewT H (xs ++ ys) Q)
theorem op_catN : OpR X (binaryOp .Add) (rCatN X.K) := by
  rintro pins s σ H x y v u Q I rx ry ⟨a, b, xs, ys, rfl, rfl, ha, hb, hz, q0, q1, q2⟩
  cases rx
  cases ry
  obtain ⟨is, r1, p1, z1⟩ := I.tuple ha
  obtain ⟨js, r2, p2, z2⟩ := I.tuple hb
  have l1 := r1.length
  have l2 := r2.length
  cases hx : xs with
  | nil =>
    subst hx
    cases r1
    exact cat_tup0 p1 p2 ⟨V.ref b, H, I, rfl, q0 rfl⟩
  | cons x0 xs0 =>
    have hne : xs ≠ [] := by rw [hx]; simp
    have h0 : is ≠ [] := fun z => hne (r1.nil_iff.mp z)
    refine HT.cat_tup p1 p2 h0 (fun z => ?_) (fun z => ?_) (by omega)
    · exact ⟨V.ref a, H, I, rfl, q1 hne (r2.nil_iff.mp z)⟩
    · exact lay_tup (tk := s.toks) I (by rw [List.length_append]; exact hz) (r1.append r2) (q2 hne fun w => z (r2.nil_iff.mpr w))
def rSlN (K : PySem.W.Frag) : V → Option Int → Option Int → Hp → VK → Prop := fun x lo hi H Q => ∃ a xs, x = .ref a ∧ SqT K H a xs ∧
  (HT.sIx xs.length 0 lo = 0 ∧ HT.sIx xs.length xs.length hi = xs.length → Q (.ref a) H) ∧ (¬ (HT.sIx xs.length 0 lo = 0 ∧ HT.sIx xs.length xs.length hi = xs.length) → NewT H (cutV xs lo hi) Q)
theorem sl_tupN : SlR X (rSlN X.K) := by
  rintro pins s σ H x v vl vu lo hi sl Q I rx hs pl pu ⟨a, xs, rfl, hx, q1, q2⟩
  cases rx
  obtain ⟨is, r, ht, hz⟩ := I.tuple hx
  have hl : is.toArray.size = xs.length := by rw [List.size_toArray, ← r.length]
  refine ⟨"tuple", _, PyProof.Rows.slot_tuple_getitem.lookup, ht.typeIs, ?_⟩
  by_cases hw : HT.sIx xs.length 0 lo = 0 ∧ HT.sIx xs.length xs.length hi = xs.length
  · exact getItem_tuple_whole ht hs pl pu (by rw [hl]; exact hw) ⟨V.ref a, H, I, rfl, q1 hw⟩
  · refine HT.getItem_tuple_cut ht hs pl pu (fun z => hw (by rw [hl] at z; exact z)) ?_ (by omega)
    rw [hl]
    exact lay_tup (tk := s.toks) I (Nat.le_trans (cutV_length xs lo hi) hz) ((r.drop _).take _) (q2 hw)
end
end L2
namespace DL
open PySem L2
inductive At where
  | non | bl (b : Bool) | int (i : Int) | str (s : Str)
  deriving DecidableEq
def At.v : At → V
  | .non => V.non
  | .bl b => V.bl b
  | .int i => V.int i
  | .str s => V.str s
inductive Xt where
  | kt | dt (ks : List (List Key)) | dl (ks : List (List Key))
  deriving DecidableEq
inductive Kd where
  | tup | lst | scr | dct (ks : List Key) | ins (C : Str) (fs : List Str) | xt (t : Xt)
  deriving DecidableEq
inductive D where
  | a (x : At)
  | n (k : Kd) (o : Bool) (xs : List D)
abbrev D.int (i : Int) : D := .a (.int i)
abbrev D.bl (b : Bool) : D := .a (.bl b)
abbrev D.str (s : Str) : D := .a (.str s)
abbrev D.non : D := .a .non
abbrev D.tup (xs : List D) : D := .n .tup false xs
abbrev D.lst (o : Bool) (xs : List D) : D := .n .lst o xs
abbrev D.scr (xs : List D) : D := .n .scr false xs
mutual
def frz : D → D
  | .a x => .a x
  | .n k _ xs => .n k false (frzL xs)
def frzL : List D → List D
  | [] => []
  | x :: xs => frz x :: frzL xs
end
mutual
def isF : D → Bool
  | .a _ => true
  | .n _ o xs => !o && isFL xs
def isFL : List D → Bool
  | [] => true
  | x :: xs => isF x && isFL xs
end
mutual
theorem isF_frz : ∀ d : D, isF (frz d) = true
  | .a _ => rfl
  | .n k o xs => by
    show (!false && isFL (frzL xs)) = true
    rw [isFL_frzL xs]; rfl
theorem isFL_frzL : ∀ xs : List D, isFL (frzL xs) = true
  | [] => rfl
  | x :: xs => by
    show (isF (frz x) && isFL (frzL xs)) = true
    rw [isF_frz x, isFL_frzL xs]; rfl
end
mutual
theorem frz_isF : ∀ d : D, isF d = true → frz d = d
  | .a _, _ => rfl
  | .n k o xs, h => by
    have h : (!o && isFL xs) = true := h
    rw [Bool.and_eq_true] at h
    have ho : o = false := by simpa using h.1
    subst ho
    show D.n k false (frzL xs) = _
    rw [frzL_isFL xs h.2]
theorem frzL_isFL : ∀ xs : List D, isFL xs = true → frzL xs = xs
  | [], _ => rfl
  | x :: xs, h => by
    have h : (isF x && isFL xs) = true := h
    rw [Bool.and_eq_true] at h
    show frz x :: frzL xs = _
    rw [frz_isF x h.1, frzL_isFL xs h.2]
end
abbrev FP := List Addr
abbrev ZS := Addr → Prop
def KT (K : PySem.W.Frag) (a : Addr) (xs : List V) : Prop :=
  ∃ (o : Obj) (its : Array Value) (n : Nat), K.lookup a = some o ∧ o.cls = .type "tuple" ∧ o.dict = none ∧ o.data = .seq its n ∧ its.size ≤ sizeLine ∧ Vals xs its.toList
def KLs (K : PySem.W.Frag) (a : Addr) (xs : List V) : Prop :=
  ∃ (o : Obj) (its : Array Value) (n : Nat), K.lookup a = some o ∧ o.cls = .type "list" ∧ o.dict = none ∧ o.data = .seq its n ∧ its.size ≤ sizeLine ∧ Vals xs its.toList
def TupK (K : PySem.W.Frag) (H : Hp) (Z : ZS) (p : Addr) (vs : List V) : Prop := (Z p ∧ ∃ ob, H p = some (.frz ob (.tup vs)) ∧ ob.dict = none) ∨ KT K p vs
theorem kt_sq {K : PySem.W.Frag} {H : Hp} {p : Addr} {vs : List V} (h : KT K p vs) : SqT K H p vs := by
  obtain ⟨o, its, n, a, b, _, c⟩ := h
  exact .inr ⟨o, its, n, a, b, c⟩
theorem tupK_sq {K : PySem.W.Frag} {H : Hp} {Z : ZS} {p : Addr} {vs : List V} (h : TupK K H Z p vs) : SqT K H p vs := by
  rcases h with ⟨_, ob, e, _⟩ | h
  · exact .inl (.inr ⟨ob, e⟩)
  · exact kt_sq h
def ContX (H : Hp) (Z : ZS) (p : Addr) (vs : List V) : Xt → Bool → Prop
  | .kt, o => o = false ∧ Z p ∧ H p = some (.tup vs)
  | .dt ks, o => H p = some (.dT (ks.zip vs)) ∧ ks.length = vs.length ∧ (o = false → Z p)
  | .dl ks, o => o = false ∧ Z p ∧ (∃ od, H p = some (.frz od (.dT (ks.zip vs)))) ∧ ks.length = vs.length
def Cont (K : PySem.W.Frag) (cA : Str → Addr) (H : Hp) (Z : ZS) (p : Addr) (vs : List V) : Kd → Bool → Prop
  | .tup, o => o = false ∧ TupK K H Z p vs
  | .scr, o => o = false ∧ ((Z p ∧ Rd H p (.lst vs)) ∨ KLs K p vs)
  | .lst, o => H p = some (.lst vs) ∧ (o = false → Z p)
  | .dct ks, o => H p = some (.dK (ks.zip vs)) ∧ ks.length = vs.length ∧ (o = false → Z p)
  | .xt t, o => ContX H Z p vs t o
  | .ins C fs, o => (∃ dx, H p = some (.ins (cA C) dx (fs.zip vs))) ∧ (fs.length = vs.length ∧ Cls K (cA C) ∧ ∀ f ∈ fs, NoAttr K (cA C) f) ∧ (o = false → Z p)
section
variable (K : PySem.W.Frag) (cA : Str → Addr) (H : Hp) (Z : ZS)
mutual
def RepD : D → V → FP → Prop
  | .a x, v, fp => v = x.v ∧ fp = []
  | .n k o xs, v, fp => ∃ p vs g, v = .ref p ∧ RepL xs vs g ∧ Cont K cA H Z p vs k o ∧ fp = (if o then p :: g else []) ∧ (o = false → g = [])
def RepL : List D → List V → FP → Prop
  | [], vs, g => vs = [] ∧ g = []
  | x :: xs, vs, g => ∃ v vs' f1 f2, vs = v :: vs' ∧ RepD x v f1 ∧ RepL xs vs' f2 ∧ g = f1 ++ f2
end
end
section
variable {K : PySem.W.Frag} {cA : Str → Addr} {H H' : Hp} {Z Z' : ZS}
theorem rd_mono {p : Addr} {u : HO} (hk : ∀ o, H p = some o → H' p = some o) (h : Rd H p u) : Rd H' p u := by
  rcases h with h | ⟨o, h⟩
  · exact .inl (hk _ h)
  · exact .inr ⟨o, hk _ h⟩
theorem cont_mono {p : Addr} {vs : List V} {k : Kd} {o : Bool} (hz : ∀ a, Z a → Z' a) (hk : ∀ u, (Z p ∨ o = true) → H p = some u → H' p = some u) (h : Cont K cA H Z p vs k o) : Cont K cA H' Z' p vs k o := by
  have h1 : (o = false → Z p) → ∀ u, H p = some u → H' p = some u := fun z u e => by
    cases o with
    | true => exact hk u (.inr rfl) e
    | false => exact hk u (.inl (z rfl)) e
  cases k with
  | tup =>
    obtain ⟨ho, h⟩ := h
    refine ⟨ho, ?_⟩
    rcases h with ⟨z, ob, e, d⟩ | h
    · exact .inl ⟨hz _ z, ob, hk _ (.inl z) e, d⟩
    · exact .inr h
  | scr =>
    obtain ⟨ho, h⟩ := h
    refine ⟨ho, ?_⟩
    rcases h with ⟨z, r⟩ | h
    · exact .inl ⟨hz _ z, rd_mono (fun u e => hk u (.inl z) e) r⟩
    · exact .inr h
  | lst =>
    obtain ⟨e, z⟩ := h
    exact ⟨h1 z _ e, fun q => hz _ (z q)⟩
  | dct ks =>
    obtain ⟨e, l, z⟩ := h
    exact ⟨h1 z _ e, l, fun q => hz _ (z q)⟩
  | xt t =>
    cases t with
    | kt =>
      obtain ⟨ho, z, e⟩ := h
      exact ⟨ho, hz _ z, hk _ (.inl z) e⟩
    | dt ks =>
      obtain ⟨e, l, z⟩ := h
      exact ⟨h1 z _ e, l, fun q => hz _ (z q)⟩
    | dl ks =>
      obtain ⟨ho, z, ⟨od, e⟩, l⟩ := h
      exact ⟨ho, hz _ z, ⟨od, hk _ (.inl z) e⟩, l⟩
  | ins C fs =>
    obtain ⟨⟨dx, e⟩, l, z⟩ := h
    exact ⟨⟨dx, h1 z _ e⟩, l, fun q => hz _ (z q)⟩
mutual
theorem repD_mono : ∀ (d : D) {v : V} {fp : FP}, (∀ a, Z a → Z' a) → (∀ a o, (Z a ∨ a ∈ fp) → H a = some o → H' a = some o) → RepD K cA H Z d v fp → RepD K cA H' Z' d v fp
  | .a x, _, _, _, _, h => h
  | .n k o xs, v, fp, hz, hk, h => by
    obtain ⟨p, vs, g, e, hl, hc, ef, hg⟩ := h
    subst ef
    refine ⟨p, vs, g, e, repL_mono xs hz (fun a u m => hk a u ?_) hl, cont_mono hz (fun u m => hk p u ?_) hc, rfl, hg⟩
    · cases o with
      | true => exact m.imp id fun z => by simp [z]
      | false =>
        rw [hg rfl] at m
        exact m.imp id fun z => by simp at z
    · exact m.imp id fun z => by simp [z]
theorem repL_mono : ∀ (xs : List D) {vs : List V} {fp : FP}, (∀ a, Z a → Z' a) → (∀ a o, (Z a ∨ a ∈ fp) → H a = some o → H' a = some o) → RepL K cA H Z xs vs fp → RepL K cA H' Z' xs vs fp
  | [], _, _, _, _, h => h
  | x :: xs, vs, fp, hz, hk, h => by
    obtain ⟨v, vs', f1, f2, e, h1, h2, ef⟩ := h
    subst ef
    exact ⟨v, vs', f1, f2, e, repD_mono x hz (fun a u m => hk a u (m.imp id fun z => by simp [z])) h1, repL_mono xs hz (fun a u m => hk a u (m.imp id fun z => by simp [z])) h2, rfl⟩
end
mutual
theorem repD_trk : ∀ (d : D) {v : V} {fp : FP}, RepD K cA H Z d v fp → ∀ a ∈ fp, ∃ o, H a = some o
  | .a x, _, _, h, a, ha => by
    rw [h.2] at ha; cases ha
  | .n k o xs, v, fp, h, a, ha => by
    obtain ⟨p, vs, g, e, hl, hc, ef, hg⟩ := h
    subst ef
    cases o with
    | false => simp at ha
    | true =>
      rcases List.mem_cons.mp ha with rfl | ha
      · cases k with
        | tup => exact absurd hc.1 (by decide)
        | scr => exact absurd hc.1 (by decide)
        | lst => exact ⟨_, hc.1⟩
        | dct ks => exact ⟨_, hc.1⟩
        | xt t =>
          cases t with
          | kt => exact absurd hc.1 (by decide)
          | dt ks => exact ⟨_, hc.1⟩
          | dl ks => exact absurd hc.1 (by decide)
        | ins C fs => exact let ⟨dx, e⟩ := hc.1; ⟨_, e⟩
      · exact repL_trk xs hl a ha
theorem repL_trk : ∀ (xs : List D) {vs : List V} {fp : FP}, RepL K cA H Z xs vs fp → ∀ a ∈ fp, ∃ o, H a = some o
  | [], _, _, h, a, ha => by
    rw [h.2] at ha; cases ha
  | x :: xs, vs, fp, h, a, ha => by
    obtain ⟨v, vs', f1, f2, e, h1, h2, ef⟩ := h
    subst ef
    rcases List.mem_append.mp ha with ha | ha
    · exact repD_trk x h1 a ha
    · exact repL_trk xs h2 a ha
end
mutual
theorem repD_nt : ∀ (d : D) {v : V} {fp : FP}, RepD K cA H Z d v fp → ∀ a ∈ fp, ∀ vs, H a ≠ some (.tup vs)
  | .a x, _, _, h, a, ha, ws => by
    rw [h.2] at ha; cases ha
  | .n k o xs, v, fp, h, a, ha, ws => by
    obtain ⟨p, vs, g, e, hl, hc, ef, hg⟩ := h
    subst ef
    cases o with
    | false => simp at ha
    | true =>
      rcases List.mem_cons.mp ha with rfl | ha
      · intro q
        cases k with
        | tup => exact absurd hc.1 (by decide)
        | scr => exact absurd hc.1 (by decide)
        | lst => have := hc.1; rw [q] at this; cases this
        | dct ks => have := hc.1; rw [q] at this; cases this
        | xt t =>
          cases t with
          | kt => exact absurd hc.1 (by decide)
          | dt ks => have := hc.1; rw [q] at this; cases this
          | dl ks => exact absurd hc.1 (by decide)
        | ins C fs => obtain ⟨dx, e⟩ := hc.1; rw [q] at e; cases e
      · exact repL_nt xs hl a ha ws
theorem repL_nt : ∀ (xs : List D) {vs : List V} {fp : FP}, RepL K cA H Z xs vs fp → ∀ a ∈ fp, ∀ vs, H a ≠ some (.tup vs)
  | [], _, _, h, a, ha, ws => by
    rw [h.2] at ha; cases ha
  | x :: xs, vs, fp, h, a, ha, ws => by
    obtain ⟨v, vs', f1, f2, e, h1, h2, ef⟩ := h
    subst ef
    rcases List.mem_append.mp ha with ha | ha
    · exact repD_nt x h1 a ha ws
    · exact repL_nt xs h2 a ha ws
end
mutual
theorem repD_isF : ∀ (d : D) {v : V} {fp : FP}, RepD K cA H Z d v fp → isF d = true → fp = []
  | .a x, _, _, h, _ => h.2
  | .n k o xs, v, fp, h, hf => by
    obtain ⟨p, vs, g, e, hl, hc, ef, hg⟩ := h
    have hf : (!o && isFL xs) = true := hf
    rw [Bool.and_eq_true] at hf
    have ho : o = false := by simpa using hf.1
    subst ho
    exact ef
theorem repL_isF : ∀ (xs : List D) {vs : List V} {fp : FP}, RepL K cA H Z xs vs fp → isFL xs = true → fp = []
  | [], _, _, h, _ => h.2
  | x :: xs, vs, fp, h, hf => by
    obtain ⟨v, vs', f1, f2, e, h1, h2, ef⟩ := h
    have hf : (isF x && isFL xs) = true := hf
    rw [Bool.and_eq_true] at hf
    rw [ef, repD_isF x h1 hf.1, repL_isF xs h2 hf.2]; rfl
end
mutual
theorem repD_frz : ∀ (d : D) {v : V} {fp : FP}, (∀ a, Z a → Z' a) → (∀ a ∈ fp, Z' a) → RepD K cA H Z d v fp → RepD K cA H Z' (frz d) v []
  | .a x, _, _, _, _, h => ⟨h.1, rfl⟩
  | .n k o xs, v, fp, hz, hf, h => by
    obtain ⟨p, vs, g, e, hl, hc, ef, hg⟩ := h
    subst ef
    have hgz : ∀ a ∈ g, Z' a := fun a ha => by
      cases o with
      | true => exact hf a (by simp [ha])
      | false => rw [hg rfl] at ha; cases ha
    have hp : o = true → Z' p := fun e => hf p (by simp [e])
    refine ⟨p, vs, [], e, repL_frz xs hz hgz hl, ?_, rfl, fun _ => rfl⟩
    have key : (o = false → Z p) → Z' p := fun z => by
      cases o with
      | true => exact hp rfl
      | false => exact hz _ (z rfl)
    cases k with
    | tup =>
      obtain ⟨_, h⟩ := hc
      refine ⟨rfl, ?_⟩
      rcases h with ⟨z, r⟩ | h
      · exact .inl ⟨hz _ z, r⟩
      · exact .inr h
    | scr =>
      obtain ⟨_, h⟩ := hc
      refine ⟨rfl, ?_⟩
      rcases h with ⟨z, r⟩ | h
      · exact .inl ⟨hz _ z, r⟩
      · exact .inr h
    | lst => exact ⟨hc.1, fun _ => key hc.2⟩
    | dct ks => exact ⟨hc.1, hc.2.1, fun _ => key hc.2.2⟩
    | xt t =>
      cases t with
      | kt => exact ⟨rfl, hz _ hc.2.1, hc.2.2⟩
      | dt ks => exact ⟨hc.1, hc.2.1, fun _ => key hc.2.2⟩
      | dl ks => exact ⟨rfl, hz _ hc.2.1, hc.2.2⟩
    | ins C fs => exact ⟨hc.1, hc.2.1, fun _ => key hc.2.2⟩
theorem repL_frz : ∀ (xs : List D) {vs : List V} {fp : FP}, (∀ a, Z a → Z' a) → (∀ a ∈ fp, Z' a) → RepL K cA H Z xs vs fp → RepL K cA H Z' (frzL xs) vs []
  | [], _, _, _, _, h => ⟨h.1, rfl⟩
  | x :: xs, vs, fp, hz, hf, h => by
    obtain ⟨v, vs', f1, f2, e, h1, h2, ef⟩ := h
    subst ef
    exact ⟨v, vs', [], [], e, repD_frz x hz (fun a ha => hf a (by simp [ha])) h1, repL_frz xs hz (fun a ha => hf a (by simp [ha])) h2, rfl⟩
end
theorem repL_len : ∀ {xs : List D} {vs : List V} {fp : FP}, RepL K cA H Z xs vs fp → vs.length = xs.length
  | [], _, _, h => by rw [h.1]; rfl
  | x :: xs, vs, fp, h => by
    obtain ⟨v, vs', f1, f2, e, h1, h2, ef⟩ := h
    rw [e, List.length_cons, List.length_cons, repL_len h2]
theorem repL_get : ∀ {xs : List D} {vs : List V} {fp : FP} {i : Nat} {d : D}, RepL K cA H Z xs vs fp → xs[i]? = some d → ∃ v f0 f1 f2, vs[i]? = some v ∧ RepD K cA H Z d v f1 ∧ fp = f0 ++ f1 ++ f2
  | [], _, _, _, _, _, e => by simp at e
  | x :: xs, vs, fp, 0, d, h, e => by
    obtain ⟨v, vs', f1, f2, ev, h1, h2, ef⟩ := h
    simp at e; subst e
    exact ⟨v, [], f1, f2, by rw [ev]; rfl, h1, by simpa using ef⟩
  | x :: xs, vs, fp, i + 1, d, h, e => by
    obtain ⟨v, vs', f1, f2, ev, h1, h2, ef⟩ := h
    obtain ⟨w, g0, g1, g2, hw, hr, hg⟩ := repL_get (i := i) h2 (by simpa using e)
    refine ⟨w, f1 ++ g0, g1, g2, by rw [ev]; simpa using hw, hr, ?_⟩
    rw [ef, hg]; simp
theorem repL_append : ∀ {xs ys : List D} {vs ws : List V} {f g : FP}, RepL K cA H Z xs vs f → RepL K cA H Z ys ws g → RepL K cA H Z (xs ++ ys) (vs ++ ws) (f ++ g)
  | [], ys, vs, ws, f, g, h, k => by
    rw [h.1, h.2]; exact k
  | x :: xs, ys, vs, ws, f, g, h, k => by
    obtain ⟨v, vs', f1, f2, ev, h1, h2, ef⟩ := h
    exact ⟨v, vs' ++ ws, f1, f2 ++ g, by rw [ev]; rfl, h1, repL_append h2 k, by rw [ef]; simp⟩
theorem repL_one {d : D} {v : V} {fp : FP} (h : RepD K cA H Z d v fp) : RepL K cA H Z [d] [v] fp := ⟨v, [], fp, [], rfl, h, ⟨rfl, rfl⟩, by simp⟩
end
structure Wf (H : Hp) (Z : ZS) (L : FP) : Prop where
  nd : L.Nodup
  dj : ∀ a ∈ L, ¬ Z a
  tz : ∀ a, Z a → ∃ o, H a = some o
def Nw (H : Hp) (a : Addr) : Prop := H a = none ∨ ∃ vs, H a = some (.tup vs)
structure Fr (H : Hp) (Z : ZS) (L : FP) (H' : Hp) (Z' : ZS) (L' : FP) : Prop where
  keep : ∀ a o, H a = some o → a ∉ L → H' a = some o
  zm : ∀ a, Z a → Z' a
  zs : ∀ a, Z' a → Z a ∨ a ∈ L ∨ Nw H a
  ls : ∀ a ∈ L', a ∈ L ∨ H a = none
section
variable {K : PySem.W.Frag} {cA : Str → Addr} {H H1 H2 : Hp} {Z Z1 Z2 : ZS} {L L1 L2 M fp : FP}
theorem Fr.refl : Fr H Z L H Z L := ⟨fun _ _ e _ => e, fun _ z => z, fun _ z => .inl z, fun _ h => .inl h⟩
theorem Fr.trans (a : Fr H Z L H1 Z1 L1) (b : Fr H1 Z1 L1 H2 Z2 L2) : Fr H Z L H2 Z2 L2 where
  keep := fun x o e h => b.keep x o (a.keep x o e h) fun m => by
    rcases a.ls x m with z | z
    · exact h z
    · rw [z] at e; cases e
  zm := fun x z => b.zm x (a.zm x z)
  zs := fun x z => by
    rcases b.zs x z with q | q | q
    · exact a.zs x q
    · exact .inr ((a.ls x q).imp id .inl)
    · by_cases hx : x ∈ L
      · exact .inr (.inl hx)
      · refine .inr (.inr ?_)
        cases e : H x with
        | none => exact .inl e
        | some o =>
          have e2 := a.keep x o e hx
          rcases q with q | ⟨vs, q⟩
          · rw [e2] at q; cases q
          · rw [e2] at q; cases q; exact .inr ⟨vs, e⟩
  ls := fun x m => by
    rcases b.ls x m with q | q
    · exact a.ls x q
    · by_cases hx : x ∈ L
      · exact .inl hx
      · refine .inr ?_
        cases e : H x with
        | none => rfl
        | some o => rw [a.keep x o e hx] at q; cases q
theorem Fr.less (a : Fr H Z L H1 Z1 L1) (h : ∀ x ∈ M, x ∈ L1) : Fr H Z L H1 Z1 M := ⟨a.keep, a.zm, a.zs, fun x m => a.ls x (h x m)⟩
theorem Fr.more (a : Fr H Z L H1 Z1 L1) (h : ∀ x ∈ L, x ∈ M) : Fr H Z M H1 Z1 L1 :=
  ⟨fun x o e n => a.keep x o e fun m => n (h x m), a.zm, fun x z => (a.zs x z).imp id (fun q => q.imp (h x) id), fun x m => (a.ls x m).imp (h x) id⟩
theorem Wf.less (w : Wf H Z L) (h : M.Sublist L) : Wf H Z M := ⟨w.nd.sublist h, fun a m => w.dj a (h.subset m), w.tz⟩
theorem Wf.perm (w : Wf H Z L) (h : L.Perm M) : Wf H Z M := ⟨h.nodup_iff.mp w.nd, fun a m => w.dj a (h.mem_iff.mpr m), w.tz⟩
theorem Wf.wait (w : Wf H1 Z1 (fp ++ L1)) (ht : ∀ a ∈ fp, ∃ o, H1 a = some o) (hn : ∀ a ∈ fp, ∀ vs, H1 a ≠ some (.tup vs)) (f : Fr H1 Z1 L1 H2 Z2 M) (w2 : Wf H2 Z2 M) : Wf H2 Z2 (fp ++ M) := by
  have nd := List.nodup_append.mp w.nd
  refine ⟨List.nodup_append.mpr ⟨nd.1, w2.nd, fun a ha b hb e => ?_⟩, fun a ha => ?_, w2.tz⟩
  · subst e
    rcases f.ls a hb with q | q
    · exact nd.2.2 a ha a q rfl
    · obtain ⟨o, e⟩ := ht a ha; rw [q] at e; cases e
  · rcases List.mem_append.mp ha with ha | ha
    · intro z
      rcases f.zs a z with q | q | q
      · exact w.dj a (by simp [ha]) q
      · exact nd.2.2 a ha a q rfl
      · rcases q with q | ⟨vs, q⟩
        · obtain ⟨o, e⟩ := ht a ha; rw [q] at e; cases e
        · exact hn a ha vs q
    · exact w2.dj a ha
theorem Fr.wait (w : Wf H1 Z1 (fp ++ L1)) (a : Fr H Z L H1 Z1 (fp ++ L1)) (f : Fr H1 Z1 L1 H2 Z2 M) : Fr H Z L H2 Z2 (fp ++ M) := by
  have b : Fr H1 Z1 (fp ++ L1) H2 Z2 (fp ++ M) := ⟨fun x o e n => f.keep x o e fun m => n (by simp [m]), f.zm, fun x z => (f.zs x z).imp id (fun q => q.imp (fun m => by simp [m]) id), fun x m => by
    rcases List.mem_append.mp m with m | m
    · exact .inl (by simp [m])
    · exact (f.ls x m).imp (fun m => by simp [m]) id⟩
  exact a.trans b
theorem repD_wait {d : D} {v : V} (w : Wf H1 Z1 (fp ++ L1)) (h : RepD K cA H1 Z1 d v fp) (f : Fr H1 Z1 L1 H2 Z2 M) : RepD K cA H2 Z2 d v fp := by
  have nd := List.nodup_append.mp w.nd
  refine repD_mono d f.zm (fun a o m e => f.keep a o e fun q => ?_) h
  rcases m with m | m
  · exact w.dj a (by simp [q]) m
  · exact nd.2.2 a m a q rfl
end
abbrev Env := List (Option D)
section
variable (K : PySem.W.Frag) (cA : Str → Addr) (H : Hp) (Z : ZS)
def RelL : Env → L2.St → FP → Prop
  | [], σ, fp => σ = [] ∧ fp = []
  | none :: ρ, σ, fp => ∃ x σ', σ = x :: σ' ∧ RelL ρ σ' fp
  | some d :: ρ, σ, fp => ∃ v σ' f1 f2, σ = some v :: σ' ∧ RepD K cA H Z d v f1 ∧ RelL ρ σ' f2 ∧ fp = f1 ++ f2
end
section
variable {K : PySem.W.Frag} {cA : Str → Addr} {H H' : Hp} {Z Z' : ZS}
theorem relL_mono : ∀ {ρ : Env} {σ : L2.St} {fp : FP}, (∀ a, Z a → Z' a) → (∀ a o, (Z a ∨ a ∈ fp) → H a = some o → H' a = some o) → RelL K cA H Z ρ σ fp → RelL K cA H' Z' ρ σ fp
  | [], _, _, _, _, h => h
  | none :: ρ, σ, fp, hz, hk, h => let ⟨x, σ', e, r⟩ := h; ⟨x, σ', e, relL_mono hz hk r⟩
  | some d :: ρ, σ, fp, hz, hk, h => by
    obtain ⟨v, σ', f1, f2, e, h1, h2, ef⟩ := h
    subst ef
    exact ⟨v, σ', f1, f2, e, repD_mono d hz (fun a u m => hk a u (m.imp id fun z => by simp [z])) h1, relL_mono hz (fun a u m => hk a u (m.imp id fun z => by simp [z])) h2, rfl⟩
theorem relL_len : ∀ {ρ : Env} {σ : L2.St} {fp : FP}, RelL K cA H Z ρ σ fp → σ.length = ρ.length
  | [], _, _, h => by rw [h.1]; rfl
  | none :: ρ, σ, fp, h => by
    obtain ⟨x, σ', e, r⟩ := h
    rw [e, List.length_cons, List.length_cons, relL_len r]
  | some d :: ρ, σ, fp, h => by
    obtain ⟨v, σ', f1, f2, e, h1, h2, ef⟩ := h
    rw [e, List.length_cons, List.length_cons, relL_len h2]
theorem relL_trk : ∀ {ρ : Env} {σ : L2.St} {fp : FP}, RelL K cA H Z ρ σ fp → ∀ a ∈ fp, ∃ o, H a = some o
  | [], _, _, h, a, ha => by rw [h.2] at ha; cases ha
  | none :: ρ, σ, fp, h, a, ha => by
    obtain ⟨x, σ', e, r⟩ := h
    exact relL_trk r a ha
  | some d :: ρ, σ, fp, h, a, ha => by
    obtain ⟨v, σ', f1, f2, e, h1, h2, ef⟩ := h
    subst ef
    rcases List.mem_append.mp ha with ha | ha
    · exact repD_trk d h1 a ha
    · exact relL_trk h2 a ha
theorem relL_nt : ∀ {ρ : Env} {σ : L2.St} {fp : FP}, RelL K cA H Z ρ σ fp → ∀ a ∈ fp, ∀ vs, H a ≠ some (.tup vs)
  | [], _, _, h, a, ha, ws => by rw [h.2] at ha; cases ha
  | none :: ρ, σ, fp, h, a, ha, ws => by
    obtain ⟨x, σ', e, r⟩ := h
    exact relL_nt r a ha ws
  | some d :: ρ, σ, fp, h, a, ha, ws => by
    obtain ⟨v, σ', f1, f2, e, h1, h2, ef⟩ := h
    subst ef
    rcases List.mem_append.mp ha with ha | ha
    · exact repD_nt d h1 a ha ws
    · exact relL_nt h2 a ha ws
theorem relL_at : ∀ {ρ : Env} {σ : L2.St} {fp : FP} {i : Nat} {d : D}, RelL K cA H Z ρ σ fp → ρ[i]? = some (some d) → ∃ v f0 f1 f2, σ[i]? = some (some v) ∧ RepD K cA H Z d v f1 ∧ fp = f0 ++ f1 ++ f2 ∧
    (∀ {H' : Hp} {Z' : ZS} {d' : D} {v' : V} {g : FP}, (∀ a, Z a → Z' a) → (∀ a o, (Z a ∨ a ∈ f0 ∨ a ∈ f2) → H a = some o → H' a = some o) → RepD K cA H' Z' d' v' g → RelL K cA H' Z' (ρ.set i (some d')) (σ.set i (some v')) (f0 ++ g ++ f2)) ∧
    (∀ {H' : Hp} {Z' : ZS}, (∀ a, Z a → Z' a) → (∀ a o, (Z a ∨ a ∈ f0 ∨ a ∈ f2) → H a = some o → H' a = some o) → RelL K cA H' Z' (ρ.set i none) σ (f0 ++ f2))
  | [], _, _, _, _, _, e => by simp at e
  | none :: ρ, σ, fp, 0, d, h, e => by simp at e
  | some d' :: ρ, σ, fp, 0, d, h, e => by
    simp at e; subst e
    obtain ⟨v, σ', f1, f2, es, h1, h2, ef⟩ := h
    subst es
    refine ⟨v, [], f1, f2, rfl, h1, by simpa using ef, fun {H' Z' d'' v' g} hz hk r => ⟨v', σ', g, f2, rfl, r, relL_mono hz (fun a o m => hk a o (m.imp id fun z => .inr z)) h2, by simp⟩, fun {H' Z'} hz hk => ?_⟩
    exact ⟨some v, σ', rfl, by simpa using relL_mono hz (fun a o m => hk a o (m.imp id fun z => .inr z)) h2⟩
  | none :: ρ, σ, fp, i + 1, d, h, e => by
    obtain ⟨x, σ', es, r⟩ := h
    subst es
    obtain ⟨v, f0, f1, f2, hv, hr, ef, put, cut⟩ := relL_at (i := i) r (by simpa using e)
    refine ⟨v, f0, f1, f2, by simpa using hv, hr, ef, fun {H' Z' d'' v' g} hz hk q => ⟨x, _, rfl, put hz hk q⟩, fun {H' Z'} hz hk => ⟨x, _, rfl, cut hz hk⟩⟩
  | some d0 :: ρ, σ, fp, i + 1, d, h, e => by
    obtain ⟨v0, σ', g1, g2, es, h1, h2, eg⟩ := h
    subst es
    obtain ⟨v, f0, f1, f2, hv, hr, ef, put, cut⟩ := relL_at (i := i) h2 (by simpa using e)
    refine ⟨v, g1 ++ f0, f1, f2, by simpa using hv, hr, by rw [eg, ef]; simp, fun {H' Z' d'' v' g} hz hk q => ⟨v0, _, g1, f0 ++ g ++ f2, rfl, ?_, put hz (fun a o m => hk a o (m.imp id fun z => z.imp (fun z => by simp [z]) id)) q, by simp⟩, fun {H' Z'} hz hk => ⟨v0, _, g1, f0 ++ f2, rfl, ?_, cut hz (fun a o m => hk a o (m.imp id fun z => z.imp (fun z => by simp [z]) id)), by simp⟩⟩
    · exact repD_mono d0 hz (fun a o m => hk a o (m.imp id fun z => .inl (by simp [z]))) h1
    · exact repD_mono d0 hz (fun a o m => hk a o (m.imp id fun z => .inl (by simp [z]))) h1
theorem relL_set : ∀ {ρ : Env} {σ : L2.St} {fp : FP} {i : Nat} {d : D} {v : V} {g : FP}, RelL K cA H Z ρ σ fp → i < ρ.length → RepD K cA H Z d v g → ∃ f0 f2, (f0 ++ f2).Sublist fp ∧ RelL K cA H Z (ρ.set i (some d)) (σ.set i (some v)) (f0 ++ g ++ f2)
  | [], _, _, _, _, _, _, _, e, _ => by simp at e
  | none :: ρ, σ, fp, 0, d, v, g, h, _, hr => by
    obtain ⟨x, σ', es, r⟩ := h
    subst es
    exact ⟨[], fp, by simp, v, σ', g, fp, rfl, hr, r, by simp⟩
  | some d' :: ρ, σ, fp, 0, d, v, g, h, _, hr => by
    obtain ⟨v', σ', f1, f2, es, h1, h2, ef⟩ := h
    subst es ef
    exact ⟨[], f2, by simp, v, σ', g, f2, rfl, hr, h2, by simp⟩
  | none :: ρ, σ, fp, i + 1, d, v, g, h, hi, hr => by
    obtain ⟨x, σ', es, r⟩ := h
    subst es
    obtain ⟨f0, f2, hs, q⟩ := relL_set (i := i) r (by simpa using hi) hr
    exact ⟨f0, f2, hs, x, _, rfl, q⟩
  | some d' :: ρ, σ, fp, i + 1, d, v, g, h, hi, hr => by
    obtain ⟨v', σ', f1, f2, es, h1, h2, ef⟩ := h
    subst es ef
    obtain ⟨f0, f2', hs, q⟩ := relL_set (i := i) h2 (by simpa using hi) hr
    refine ⟨f1 ++ f0, f2', ?_, v', _, f1, f0 ++ g ++ f2', rfl, h1, q, by simp⟩
    rw [List.append_assoc]
    exact (List.Sublist.refl f1).append hs
end
end DL
namespace DL
open PySem L2
structure Exn where
  c : Str
  fs : List (Str × At)
inductive Out (α : Type) where
  | ok (x : α) (ρ : Env) | ex (e : Exn) (ρ : Env) | st
inductive Fl where
  | nx (ρ : Env) | rt (d : D) (ρ : Env) | bk (ρ : Env) | ct (ρ : Env) | ex (e : Exn) (ρ : Env) | st
inductive FR where
  | rt (d : D) (io : Option D) | ex (e : Exn) (io : Option D) | st
def ExR (cA : Str → Addr) (H : Hp) (Z : ZS) (e : Exn) (cls : Value) (d : Option Addr) : Prop :=
  cls = .ref (cA e.c) ∧ ((e.fs = [] ∧ d = none) ∨ e.fs ≠ [] ∧ ∃ dd, d = some dd ∧ Z dd ∧ H dd = some (.xd (e.fs.map fun p => (p.1, p.2.v))))
section
variable (K : PySem.W.Frag) (cA : Str → Addr)
def PostE (W : WX) (σ : L2.St) (H : Hp) (Z : ZS) (L : FP) (Q : VK) : Out D → Prop
  | .ok d ρ' => ∀ v H' Z' L' fp, RelL K cA H' Z' ρ' σ L' → Wf H' Z' (fp ++ L') → RepD K cA H' Z' d v fp → Fr H Z L H' Z' (fp ++ L') → Q v H'
  | .ex e ρ' => ∀ cls d H' Z' L', RelL K cA H' Z' ρ' σ L' → Wf H' Z' L' → ExR cA H' Z' e cls d → Fr H Z L H' Z' L' → W cls d σ H'
  | .st => False
def PostP (W : WX) (σ : L2.St) (H : Hp) (Z : ZS) (L : FP) (Q : VK) : Out D → Prop
  | .ok d ρ' => ∀ v H' Z' L' fp, RelL K cA H' Z' ρ' σ L' → Wf H' Z' L' → RepD K cA H' Z' d v fp → Fr H Z L H' Z' L' → Q v H'
  | .ex e ρ' => ∀ cls d H' Z' L', RelL K cA H' Z' ρ' σ L' → Wf H' Z' L' → ExR cA H' Z' e cls d → Fr H Z L H' Z' L' → W cls d σ H'
  | .st => False
def PostT (W : WX) (σ : L2.St) (H : Hp) (Z : ZS) (L : FP) (Q : Bool → Hp → Prop) : Out Bool → Prop
  | .ok b ρ' => ∀ H' Z' L', RelL K cA H' Z' ρ' σ L' → Wf H' Z' L' → Fr H Z L H' Z' L' → Q b H'
  | .ex e ρ' => ∀ cls d H' Z' L', RelL K cA H' Z' ρ' σ L' → Wf H' Z' L' → ExR cA H' Z' e cls d → Fr H Z L H' Z' L' → W cls d σ H'
  | .st => False
inductive Ag where
  | d (d : D) | s (i : Nat)
def RepA (H : Hp) (Z : ZS) (σ : L2.St) : List Ag → List V → FP → Prop
  | [], vs, g => vs = [] ∧ g = []
  | .d x :: xs, vs, g => ∃ v vs' f1 f2, vs = v :: vs' ∧ RepD K cA H Z x v f1 ∧ RepA H Z σ xs vs' f2 ∧ g = f1 ++ f2
  | .s i :: xs, vs, g => ∃ v vs', vs = v :: vs' ∧ σ[i]? = some (some v) ∧ RepA H Z σ xs vs' g
def PostA (W : WX) (σ : L2.St) (H : Hp) (Z : ZS) (L : FP) (Q : List V → Hp → Prop) : Out (List Ag) → Prop
  | .ok ds ρ' => ∀ vs H' Z' L' fp, RelL K cA H' Z' ρ' σ L' → Wf H' Z' (fp ++ L') → RepA K cA H' Z' σ ds vs fp → Fr H Z L H' Z' (fp ++ L') → Q vs H'
  | .ex e ρ' => ∀ cls d H' Z' L', RelL K cA H' Z' ρ' σ L' → Wf H' Z' L' → ExR cA H' Z' e cls d → Fr H Z L H' Z' L' → W cls d σ H'
  | .st => False
def Pin (k : Option Nat) (σ σ' : L2.St) : Prop := ∀ i, k = some i → σ'[i]? = σ[i]?
def PostS (W : WX) (k : Option Nat) (σ : L2.St) (H : Hp) (Z : ZS) (L : FP) (D : Ends) : Fl → Prop
  | .nx ρ' => ∀ σ' H' Z' L', RelL K cA H' Z' ρ' σ' L' → Wf H' Z' L' → Fr H Z L H' Z' L' → Pin k σ σ' → D.nx σ' H'
  | .bk ρ' => ∀ σ' H' Z' L', RelL K cA H' Z' ρ' σ' L' → Wf H' Z' L' → Fr H Z L H' Z' L' → Pin k σ σ' → D.bk σ' H'
  | .ct ρ' => ∀ σ' H' Z' L', RelL K cA H' Z' ρ' σ' L' → Wf H' Z' L' → Fr H Z L H' Z' L' → Pin k σ σ' → D.ct σ' H'
  | .rt d ρ' => ∀ v σ' H' Z' L' fp, RelL K cA H' Z' ρ' σ' L' → Wf H' Z' (fp ++ L') → RepD K cA H' Z' d v fp → Fr H Z L H' Z' (fp ++ L') → Pin k σ σ' → D.rt v H'
  | .ex e ρ' => ∀ cls d σ' H' Z' L', RelL K cA H' Z' ρ' σ' L' → Wf H' Z' L' → ExR cA H' Z' e cls d → Fr H Z L H' Z' L' → Pin k σ σ' → W cls d σ' H'
  | .st => False
def TEof (W : WX) (f : Env → Out D) : TE := fun σ H Q => ∃ Z L ρ, RelL K cA H Z ρ σ L ∧ Wf H Z L ∧ PostE K cA W σ H Z L Q (f ρ)
def TPof (W : WX) (f : Env → Out D) : TE := fun σ H Q => ∃ Z L ρ, RelL K cA H Z ρ σ L ∧ Wf H Z L ∧ PostP K cA W σ H Z L Q (f ρ)
def TTof (W : WX) (f : Env → Out Bool) : TT := fun σ H Q => ∃ Z L ρ, RelL K cA H Z ρ σ L ∧ Wf H Z L ∧ PostT K cA W σ H Z L Q (f ρ)
def TAof (W : WX) (f : Env → Out (List Ag)) : TA := fun σ H Q => ∃ Z L ρ, RelL K cA H Z ρ σ L ∧ Wf H Z L ∧ PostA K cA W σ H Z L Q (f ρ)
def TSof (W : WX) (k : Option Nat) (f : Env → Fl) : TS := fun D σ H => ∃ Z L ρ, RelL K cA H Z ρ σ L ∧ Wf H Z L ∧ PostS K cA W k σ H Z L D (f ρ)
end
section
variable (X : Cx) (cA : Str → Addr) (W : WX)
def DE (f : Env → Out D) (e : Expr) : Prop := PE X e (TEof X.K cA W f)
def DP (f : Env → Out D) (e : Expr) : Prop := PE X e (TPof X.K cA W f)
def DT (f : Env → Out Bool) (e : Expr) : Prop := PT X e (TTof X.K cA W f)
def DW (f : Env → Out Bool) (e : Expr) : Prop := PW X e (TTof X.K cA W f)
def DA (f : Env → Out (List Ag)) (es : List Expr) : Prop := PA X es (TAof X.K cA W f)
def DS (k : Option Nat) (f : Env → Fl) (st : Stmt) : Prop := PS X st (TSof X.K cA W k f)
def DSs (k : Option Nat) (f : Env → Fl) (st : List Stmt) : Prop := PSs X st (TSof X.K cA W k f)
end
section
variable {X : Cx}
theorem PE.imp {e : Expr} {t t' : TE} (h : PE X e t) (i : ∀ σ H Q, t' σ H Q → t σ H Q) : PE X e t' := ⟨fun pins s σ H Q I w => h.run pins s σ H Q I (i σ H Q w)⟩
theorem PT.imp {e : Expr} {t t' : TT} (h : PT X e t) (i : ∀ σ H Q, t' σ H Q → t σ H Q) : PT X e t' := ⟨fun pins s σ H Q I w => h.run pins s σ H Q I (i σ H Q w)⟩
theorem PW.imp {e : Expr} {t t' : TT} (h : PW X e t) (i : ∀ σ H Q, t' σ H Q → t σ H Q) : PW X e t' := ⟨fun wh pins s σ H Q I w => h.run wh pins s σ H Q I (i σ H Q w)⟩
theorem PA.imp {e : List Expr} {t t' : TA} (h : PA X e t) (i : ∀ σ H Q, t' σ H Q → t σ H Q) : PA X e t' := ⟨fun pos pins s σ H Q I w => h.run pos pins s σ H Q I (i σ H Q w)⟩
theorem PS.imp {e : Stmt} {t t' : TS} (h : PS X e t) (i : ∀ D σ H, t' D σ H → t D σ H) : PS X e t' := ⟨fun pins s σ H D I w => h.run pins s σ H D I (i D σ H w)⟩
theorem PSs.imp {e : List Stmt} {t t' : TS} (h : PSs X e t) (i : ∀ D σ H, t' D σ H → t D σ H) : PSs X e t' := ⟨fun pins s σ H D I w => h.run pins s σ H D I (i D σ H w)⟩
end
section
variable {K : PySem.W.Frag} {cA : Str → Addr} {H H1 H2 : Hp} {Z Z1 Z2 : ZS} {L L1 L2 M fp : FP} {ρ : Env} {σ : _root_.L2.St}
theorem relL_wait (w : Wf H1 Z1 (fp ++ L1)) (h : RelL K cA H1 Z1 ρ σ fp) (f : Fr H1 Z1 L1 H2 Z2 M) : RelL K cA H2 Z2 ρ σ fp := by
  have nd := List.nodup_append.mp w.nd
  refine relL_mono f.zm (fun a o m e => f.keep a o e fun q => ?_) h
  rcases m with m | m
  · exact w.dj a (by simp [q]) m
  · exact nd.2.2 a m a q rfl
theorem Wf.swap (w : Wf H Z (L ++ M)) : Wf H Z (M ++ L) := w.perm (List.perm_append_comm)
theorem Fr.swap (f : Fr H Z L H1 Z1 (L1 ++ M)) : Fr H Z L H1 Z1 (M ++ L1) := f.less fun x m => by
  rcases List.mem_append.mp m with m | m <;> simp [m]
theorem Fr.swapl (f : Fr H Z (L ++ M) H1 Z1 L1) : Fr H Z (M ++ L) H1 Z1 L1 := f.more fun x m => by
  rcases List.mem_append.mp m with m | m <;> simp [m]
theorem hand (w : Wf H1 Z1 (fp ++ L1)) (r : RelL K cA H1 Z1 ρ σ L1) (f : Fr H1 Z1 fp H2 Z2 M) (w2 : Wf H2 Z2 M) : RelL K cA H2 Z2 ρ σ L1 ∧ Wf H2 Z2 (M ++ L1) ∧ Fr H1 Z1 (fp ++ L1) H2 Z2 (M ++ L1) := by
  have ws := w.swap
  refine ⟨relL_wait ws r f, (ws.wait (relL_trk r) (relL_nt r) f w2).swap, ?_⟩
  exact ((Fr.refl (H := H1) (Z := Z1) (L := L1 ++ fp)).wait ws f).swap.swapl
theorem hand0 (w : Wf H1 Z1 L1) (r : RelL K cA H1 Z1 ρ σ L1) (f : Fr H1 Z1 [] H2 Z2 M) (w2 : Wf H2 Z2 M) : RelL K cA H2 Z2 ρ σ L1 ∧ Wf H2 Z2 (M ++ L1) ∧ Fr H1 Z1 L1 H2 Z2 (M ++ L1) := hand (fp := []) w r f w2
def ZU (Z : ZS) (fp : FP) : ZS := fun a => Z a ∨ a ∈ fp
theorem Wf.freeze (w : Wf H Z (fp ++ L)) (ht : ∀ a ∈ fp, ∃ o, H a = some o) : Wf H (ZU Z fp) L := by
  have nd := List.nodup_append.mp w.nd
  refine ⟨nd.2.1, fun a ha z => ?_, fun a z => ?_⟩
  · rcases z with z | z
    · exact w.dj a (by simp [ha]) z
    · exact nd.2.2 a z a ha rfl
  · rcases z with z | z
    · exact w.tz a z
    · exact ht a z
theorem Fr.freeze (f : Fr H Z L H1 Z1 (fp ++ M)) : Fr H Z L H1 (ZU Z1 fp) M := by
  refine ⟨f.keep, fun a z => .inl (f.zm a z), fun a z => ?_, fun a m => f.ls a (by simp [m])⟩
  rcases z with z | z
  · exact f.zs a z
  · exact .inr ((f.ls a (by simp [z])).imp id .inl)
theorem zu_sub {fp : FP} : ∀ a, Z a → ZU Z fp a := fun _ z => .inl z
theorem relL_zu (h : RelL K cA H Z ρ σ L) : RelL K cA H (ZU Z fp) ρ σ L := relL_mono zu_sub (fun _ _ _ e => e) h
theorem repD_zu {d : D} {v : V} (h : RepD K cA H Z d v fp) : RepD K cA H (ZU Z fp) (frz d) v [] := repD_frz d zu_sub (fun a m => .inr m) h
theorem repL_zu {d : List D} {v : List V} (h : RepL K cA H Z d v fp) : RepL K cA H (ZU Z fp) (frzL d) v [] := repL_frz d zu_sub (fun a m => .inr m) h
theorem fr_new {p : Addr} {o : HO} (h : H p = none) : Fr H Z L (upd H p o) Z (p :: L) := by
  refine ⟨fun a u e _ => by rw [upd_ne (ne_of_none e h)]; exact e, fun _ z => z, fun _ z => .inl z, fun a m => ?_⟩
  rcases List.mem_cons.mp m with rfl | m
  · exact .inr h
  · exact .inl m
theorem wf_new {p : Addr} {o : HO} (w : Wf H Z L) (h : H p = none) (ht : ∀ a ∈ L, ∃ o, H a = some o) : Wf (upd H p o) Z (p :: L) := by
  refine ⟨List.nodup_cons.mpr ⟨fun m => ?_, w.nd⟩, fun a m => ?_, fun a z => ?_⟩
  · obtain ⟨u, e⟩ := ht p m; rw [h] at e; cases e
  · rcases List.mem_cons.mp m with rfl | m
    · intro z; obtain ⟨u, e⟩ := w.tz a z; rw [h] at e; cases e
    · exact w.dj a m
  · obtain ⟨u, e⟩ := w.tz a z
    exact ⟨u, by rw [upd_ne (ne_of_none e h)]; exact e⟩
theorem keep_new {p : Addr} {o : HO} (h : H p = none) : ∀ a u, H a = some u → upd H p o a = some u := fun a u e => by rw [upd_ne (ne_of_none e h)]; exact e
end
section
variable {X : Cx} {cA : Str → Addr} {W : WX} {k : Option Nat}
theorem de_of {e : Expr} {t : TE} {f : Env → Out D} (h : PE X e t) (i : ∀ σ H Q Z L ρ, RelL X.K cA H Z ρ σ L → Wf H Z L → PostE X.K cA W σ H Z L Q (f ρ) → t σ H Q) : DE X cA W f e :=
  PE.imp h fun σ H Q ⟨Z, L, ρ, r, w, p⟩ => i σ H Q Z L ρ r w p
theorem dp_of {e : Expr} {t : TE} {f : Env → Out D} (h : PE X e t) (i : ∀ σ H Q Z L ρ, RelL X.K cA H Z ρ σ L → Wf H Z L → PostP X.K cA W σ H Z L Q (f ρ) → t σ H Q) : DP X cA W f e :=
  PE.imp h fun σ H Q ⟨Z, L, ρ, r, w, p⟩ => i σ H Q Z L ρ r w p
theorem da_of {e : List Expr} {t : TA} {f : Env → Out (List Ag)} (h : PA X e t) (i : ∀ σ H Q Z L ρ, RelL X.K cA H Z ρ σ L → Wf H Z L → PostA X.K cA W σ H Z L Q (f ρ) → t σ H Q) : DA X cA W f e :=
  PA.imp h fun σ H Q ⟨Z, L, ρ, r, w, p⟩ => i σ H Q Z L ρ r w p
theorem ds_of {e : Stmt} {t : TS} {f : Env → Fl} (h : PS X e t) (i : ∀ D σ H Z L ρ, RelL X.K cA H Z ρ σ L → Wf H Z L → PostS X.K cA W k σ H Z L D (f ρ) → t D σ H) : DS X cA W k f e :=
  PS.imp h fun D σ H ⟨Z, L, ρ, r, w, p⟩ => i D σ H Z L ρ r w p
theorem dss_of {e : List Stmt} {t : TS} {f : Env → Fl} (h : PSs X e t) (i : ∀ D σ H Z L ρ, RelL X.K cA H Z ρ σ L → Wf H Z L → PostS X.K cA W k σ H Z L D (f ρ) → t D σ H) : DSs X cA W k f e :=
  PSs.imp h fun D σ H ⟨Z, L, ρ, r, w, p⟩ => i D σ H Z L ρ r w p
end
theorem exw {K : PySem.W.Frag} {cA : Str → Addr} {W : WX} {σ : L2.St} {H H1 : Hp} {Z Z1 : ZS} {L L1 : FP} {e : Exn} {ρ' : Env}
    (h : ∀ cls d H' Z' L', RelL K cA H' Z' ρ' σ L' → Wf H' Z' L' → ExR cA H' Z' e cls d → Fr H Z L H' Z' L' → W cls d σ H') (f : Fr H Z L H1 Z1 L1) :
    ∀ cls d H' Z' L', RelL K cA H' Z' ρ' σ L' → Wf H' Z' L' → ExR cA H' Z' e cls d → Fr H1 Z1 L1 H' Z' L' → W cls d σ H' := fun cls d H' Z' L' r w x g => h cls d H' Z' L' r w x (f.trans g)
section
variable {X : Cx} {cA : Str → Addr} {W : WX}
theorem postE_at {K : PySem.W.Frag} {σ : L2.St} {H : Hp} {Z : ZS} {L : FP} {ρ : Env} {Q : VK} {d : D} {v : V} (r : RelL K cA H Z ρ σ L) (w : Wf H Z L) (h : RepD K cA H Z d v []) (p : PostE K cA W σ H Z L Q (.ok d ρ)) : Q v H :=
  p v H Z L [] r w h Fr.refl
theorem repD_a {K : PySem.W.Frag} {H : Hp} {Z : ZS} {x : At} : RepD K cA H Z (.a x) x.v [] := ⟨rfl, rfl⟩
def dC (x : At) : Env → Out D := fun ρ => .ok (.a x) ρ
theorem de_int {i : Int} {j pos} : DE X cA W (dC (.int i)) (.Constant (.int i) j pos) := de_of pe_int fun σ H Q Z L ρ r w p => postE_at r w repD_a p
theorem de_bl {b : Bool} {j pos} : DE X cA W (dC (.bl b)) (.Constant (.bool b) j pos) := de_of pe_bl fun σ H Q Z L ρ r w p => postE_at r w repD_a p
theorem de_str {x : Str} {j pos} : DE X cA W (dC (.str x)) (.Constant (.str x) j pos) := de_of pe_str fun σ H Q Z L ρ r w p => postE_at r w repD_a p
theorem de_glob {x : Str} {a : At} {u : Value} {pos : Pos} (hg : Gl X x) (hm : X.mg x = some u) (r : RelV a.v u) (hd : (x == ("__debug__" : Str)) = false := by kernel_rfl) : DE X cA W (dC a) (.Name x pos) :=
  de_of (pe_glob hg hm r hd) fun σ H Q Z L ρ r w p => postE_at r w repD_a p
def dVar (i : Nat) : Env → Out D := fun ρ => match ρ[i]? with
  | some (some d) => if isF d = true then .ok d ρ else .st
  | _ => .st
def dPeek (i : Nat) : Env → Out D := fun ρ => match ρ[i]? with
  | some (some d) => .ok d ρ
  | _ => .st
theorem de_var {i : Nat} {e : Expr} (h : PE X e (tVar i)) : DE X cA W (dVar i) e := de_of h fun σ H Q Z L ρ r w p => by
  unfold dVar at p
  split at p
  · rename_i d hd
    split at p
    · rename_i hf
      obtain ⟨v, f0, f1, f2, hv, hr, ef, _, _⟩ := relL_at r hd
      have e1 := repD_isF d hr hf
      subst e1
      exact ⟨v, hv, postE_at r w hr p⟩
    · exact p.elim
  · exact p.elim
theorem dp_peek {i : Nat} {e : Expr} (h : PE X e (tVar i)) : DP X cA W (dPeek i) e := dp_of h fun σ H Q Z L ρ r w p => by
  unfold dPeek at p
  split at p
  · rename_i d hd
    obtain ⟨v, f0, f1, f2, hv, hr, ef, _, _⟩ := relL_at r hd
    exact ⟨v, hv, p v H Z L f1 r w hr Fr.refl⟩
  · exact p.elim
theorem dp_de {f : Env → Out D} {e : Expr} (h : DE X cA W f e) : DP X cA W f e := dp_of h fun σ H Q Z L ρ r w p => ⟨Z, L, ρ, r, w, by
  cases hf : f ρ with
  | ok d ρ' =>
    rw [hf] at p
    exact fun v H' Z' L' fp r' w' h' f' => p v H' Z' L' fp r' (w'.less (List.sublist_append_right _ _)) h' (f'.less fun x m => by simp [m])
  | ex e ρ' => rw [hf] at p; exact p
  | st => rw [hf] at p; exact p⟩
def dFz (f : Env → Out D) : Env → Out D := fun ρ => match f ρ with
  | .ok d ρ' => .ok (frz d) ρ'
  | .ex e ρ' => .ex e ρ'
  | .st => .st
theorem de_fz {f : Env → Out D} {e : Expr} (h : DE X cA W f e) : DE X cA W (dFz f) e := de_of h fun σ H Q Z L ρ r w p => ⟨Z, L, ρ, r, w, by
  unfold dFz at p
  cases hf : f ρ with
  | ok d ρ' =>
    rw [hf] at p
    exact fun v H' Z' L' fp r' w' h' f' => p v H' (ZU Z' fp) L' [] (relL_zu r') (w'.freeze (repD_trk d h')) (repD_zu h') f'.freeze
  | ex e ρ' => rw [hf] at p; exact p
  | st => rw [hf] at p; exact p⟩
structure VOp2 (K : PySem.W.Frag) (cA : Str → Addr) (r : R2) (g : D → D → Option D) : Prop where
  run : ∀ {d1 d2 d : D} {v1 v2 : V} {H : Hp} {Z : ZS} {f1 f2 : FP} {Q : VK}, RepD K cA H Z d1 v1 f1 → RepD K cA H Z d2 v2 f2 → Wf H Z (f1 ++ f2) → g d1 d2 = some d →
  (∀ v H' Z' fp, RepD K cA H' Z' d v fp → Wf H' Z' fp → Fr H Z (f1 ++ f2) H' Z' fp → Q v H') → r v1 v2 H Q
def dOp2 (g : D → D → Option D) (fa fb : Env → Out D) : Env → Out D := fun ρ => match fa ρ with
  | .ok d1 ρ1 => (match fb ρ1 with
    | .ok d2 ρ2 => (match g d1 d2 with
      | some d => .ok d ρ2
      | none => .st)
    | .ex e ρ2 => .ex e ρ2
    | .st => .st)
  | .ex e ρ1 => .ex e ρ1
  | .st => .st
theorem te_op2 {K : PySem.W.Frag} {r : R2} {g : D → D → Option D} (V : VOp2 K cA r g) {fa fb : Env → Out D} : ∀ σ H Q, TEof K cA W (dOp2 g fa fb) σ H Q → tOp r (TEof K cA W fa) (TEof K cA W fb) σ H Q := by
  rintro σ H Q ⟨Z, L, ρ, r, w, p⟩
  refine ⟨Z, L, ρ, r, w, ?_⟩
  unfold dOp2 at p
  cases ha : fa ρ with
  | st => rw [ha] at p; exact p
  | ex e ρ' => rw [ha] at p; exact p
  | ok d1 ρ1 =>
    rw [ha] at p
    intro v1 H1 Z1 L1 f1 r1 w1 h1 F1
    refine ⟨Z1, L1, ρ1, r1, w1.less (List.sublist_append_right _ _), ?_⟩
    dsimp only at p
    cases hb : fb ρ1 with
    | st => rw [hb] at p; exact p
    | ex e ρ' =>
      rw [hb] at p
      exact exw p (F1.less fun x m => by simp [m])
    | ok d2 ρ2 =>
      rw [hb] at p
      intro v2 H2 Z2 L2 f2 r2 w2 h2 F2
      dsimp only at p
      cases hg : g d1 d2 with
      | none => rw [hg] at p; exact p.elim
      | some d =>
        rw [hg] at p
        have w12 : Wf H2 Z2 (f1 ++ (f2 ++ L2)) := w1.wait (repD_trk d1 h1) (repD_nt d1 h1) F2 w2
        have F12 := Fr.wait w1 F1 F2
        rw [← List.append_assoc] at w12 F12
        refine V.run (repD_wait w1 h1 F2) h2 (w12.less (List.sublist_append_left _ _)) hg fun v H3 Z3 fp h3 w3 F3 => ?_
        obtain ⟨r3, w4, F4⟩ := hand w12 r2 F3 w3
        exact p v H3 Z3 L2 fp r3 w4 h3 (F12.trans F4)
theorem de_op {op : Operator} {r : R2} {g : D → D → Option D} {fa fb : Env → Out D} {a b : Expr} {pos : Pos} (ho : OpR X (binaryOp op) r) (V : VOp2 X.K cA r g) (ha : DE X cA W fa a) (hb : DE X cA W fb b) : DE X cA W (dOp2 g fa fb) (.BinOp a op b pos) :=
  PE.imp (pe_op ho ha hb) (te_op2 V)
theorem de_cmp {op : CmpOp} {r : R2} {g : D → D → Option D} {fa fb : Env → Out D} {a b : Expr} {pos : Pos} (ho : OpR X (compareOp op) r) (V : VOp2 X.K cA r g) (ha : DE X cA W fa a) (hb : DE X cA W fb b) (hm : behindInMarks op b = false := by exact nomark _) : DE X cA W (dOp2 g fa fb) (.Compare a [op] [b] pos) :=
  PE.imp (pe_cmpR ho ha hb hm) (te_op2 V)
structure VOpP (K : PySem.W.Frag) (cA : Str → Addr) (r : R2) (g : D → D → Option D) : Prop where
  run : ∀ {d1 d2 d : D} {v1 v2 : V} {H : Hp} {Z : ZS} {f1 f2 : FP} {Q : VK}, RepD K cA H Z d1 v1 f1 → RepD K cA H Z d2 v2 f2 → g d1 d2 = some d →
  (∀ x, d = .a x → Q x.v H) → r v1 v2 H Q
theorem te_opP {K : PySem.W.Frag} {r : R2} {g : D → D → Option D} (V : VOpP K cA r g) (hg : ∀ d1 d2 d, g d1 d2 = some d → ∃ x, d = .a x) {fa fb : Env → Out D} : ∀ σ H Q, TEof K cA W (dOp2 g fa fb) σ H Q → tOp r (TEof K cA W fa) (TPof K cA W fb) σ H Q := by
  rintro σ H Q ⟨Z, L, ρ, r, w, p⟩
  refine ⟨Z, L, ρ, r, w, ?_⟩
  unfold dOp2 at p
  cases ha : fa ρ with
  | st => rw [ha] at p; exact p
  | ex e ρ' => rw [ha] at p; exact p
  | ok d1 ρ1 =>
    rw [ha] at p
    intro v1 H1 Z1 L1 f1 r1 w1 h1 F1
    refine ⟨Z1, L1, ρ1, r1, w1.less (List.sublist_append_right _ _), ?_⟩
    dsimp only at p
    cases hb : fb ρ1 with
    | st => rw [hb] at p; exact p
    | ex e ρ' =>
      rw [hb] at p
      exact exw p (F1.less fun x m => by simp [m])
    | ok d2 ρ2 =>
      rw [hb] at p
      intro v2 H2 Z2 L2 f2 r2 w2 h2 F2
      dsimp only at p
      cases hg' : g d1 d2 with
      | none => rw [hg'] at p; exact p.elim
      | some d =>
        rw [hg'] at p
        obtain ⟨x, rfl⟩ := hg d1 d2 d hg'
        refine V.run (repD_wait w1 h1 F2) h2 hg' fun x' e => ?_
        cases e
        exact p x.v H2 Z2 L2 [] r2 w2 repD_a ((F1.less fun x m => by simp [m]).trans F2)
end
end DL
namespace DL
open PySem L2
abbrev cap : Nat := 1000000
theorem cap_le {n : Nat} (h : n ≤ cap) : n ≤ sizeLine := Nat.le_trans h (by rw [sizeLine_eq]; decide)
theorem cap_lt {n : Nat} (h : n < cap) : n < sizeLine := Nat.lt_of_lt_of_le h (by rw [sizeLine_eq]; decide)
theorem vop_at {K : PySem.W.Frag} {cA : Str → Addr} {r : R2} {g : D → D → Option D} (h : ∀ d1 d2 d, g d1 d2 = some d → ∃ x y z, d1 = .a x ∧ d2 = .a y ∧ d = .a z ∧ ∀ H (Q : VK), Q z.v H → r x.v y.v H Q) : VOp2 K cA r g := by
  refine ⟨@fun d1 d2 d v1 v2 H Z f1 f2 Q h1 h2 w hg q => ?_⟩
  obtain ⟨x, y, z, rfl, rfl, rfl, hr⟩ := h d1 d2 d hg
  obtain ⟨e1, e2⟩ := h1
  obtain ⟨e3, e4⟩ := h2
  subst e1 e2 e3 e4
  exact hr H Q (q _ H Z [] ⟨rfl, rfl⟩ ⟨List.nodup_nil, fun _ m => (nomatch m), w.tz⟩ Fr.refl)
def gOr (g g' : D → D → Option D) : D → D → Option D := fun a b => (g a b).or (g' a b)
theorem vop_or {K : PySem.W.Frag} {cA : Str → Addr} {r r' : R2} {g g' : D → D → Option D} (h : VOp2 K cA r g) (h' : VOp2 K cA r' g') : VOp2 K cA (fun x y H Q => r x y H Q ∨ r' x y H Q) (gOr g g') := by
  refine ⟨@fun d1 d2 d v1 v2 H Z f1 f2 Q h1 h2 w hg q => ?_⟩
  unfold gOr at hg
  cases e : g d1 d2 with
  | some c =>
    rw [e] at hg
    cases hg
    exact .inl (h.run h1 h2 w e q)
  | none =>
    rw [e] at hg
    exact .inr (h'.run h1 h2 w hg q)
def gII (c : Int → Int → Bool) (f : Int → Int → Int) : D → D → Option D
  | .a (.int i), .a (.int j) => if c i j = true then some (.int (f i j)) else none
  | _, _ => none
theorem vop_ii {K : PySem.W.Frag} {cA : Str → Addr} {C : Int → Int → Prop} {c : Int → Int → Bool} {f : Int → Int → Int} (h : ∀ i j, c i j = true → C i j) : VOp2 K cA (rI C fun i j => .int (f i j)) (gII c f) := vop_at fun d1 d2 d hg => by
  unfold gII at hg
  split at hg
  · rename_i i j
    split at hg
    · rename_i hc
      cases hg
      exact ⟨_, _, _, rfl, rfl, rfl, fun H Q q => ⟨i, j, rfl, rfl, h i j hc, q⟩⟩
    · cases hg
  · cases hg
theorem vop_ii0 {K : PySem.W.Frag} {cA : Str → Addr} {f : Int → Int → Int} : VOp2 K cA (rI0 fun i j => .int (f i j)) (gII (fun _ _ => true) f) := vop_at fun d1 d2 d hg => by
  unfold gII at hg
  split at hg
  · rename_i i j
    rw [if_pos rfl] at hg
    cases hg
    exact ⟨_, _, _, rfl, rfl, rfl, fun H Q q => ⟨i, j, rfl, rfl, q⟩⟩
  · cases hg
def gIB (f : Int → Int → Bool) : D → D → Option D
  | .a (.int i), .a (.int j) => some (.bl (f i j))
  | _, _ => none
theorem vop_ib {K : PySem.W.Frag} {cA : Str → Addr} {f : Int → Int → Bool} : VOp2 K cA (rI0 fun i j => .bl (f i j)) (gIB f) := vop_at fun d1 d2 d hg => by
  unfold gIB at hg
  split at hg
  · rename_i i j
    cases hg
    exact ⟨_, _, _, rfl, rfl, rfl, fun H Q q => ⟨i, j, rfl, rfl, q⟩⟩
  · cases hg
def gCatL : D → D → Option D
  | .n .lst _ xs, .n .lst _ ys => if isFL xs = true ∧ isFL ys = true ∧ xs.length + ys.length ≤ cap then some (.lst true (xs ++ ys)) else none
  | _, _ => none
section
variable {K : PySem.W.Frag} {cA : Str → Addr} {H : Hp} {Z : ZS}
theorem rep_lst {o : Bool} {xs : List D} {v : V} {fp : FP} (h : RepD K cA H Z (.n .lst o xs) v fp) : ∃ p vs g, v = .ref p ∧ H p = some (.lst vs) ∧ RepL K cA H Z xs vs g ∧ fp = (if o then p :: g else []) ∧ (o = false → Z p ∧ g = []) := by
  obtain ⟨p, vs, g, e, hl, hc, ef, hg⟩ := h
  exact ⟨p, vs, g, e, hc.1, hl, ef, fun q => ⟨hc.2 q, hg q⟩⟩
theorem rep_tup {o : Bool} {xs : List D} {v : V} {fp : FP} (h : RepD K cA H Z (.n .tup o xs) v fp) : ∃ p vs, v = .ref p ∧ SqT K H p vs ∧ RepL K cA H Z xs vs [] ∧ fp = [] ∧ o = false ∧ TupK K H Z p vs := by
  obtain ⟨p, vs, g, e, hl, ⟨ho, hc⟩, ef, hg⟩ := h
  subst ho
  have := hg rfl
  subst this
  exact ⟨p, vs, e, tupK_sq hc, hl, ef, rfl, hc⟩
theorem rep_scr {o : Bool} {xs : List D} {v : V} {fp : FP} (h : RepD K cA H Z (.n .scr o xs) v fp) : ∃ p vs, v = .ref p ∧ SqL K H p vs ∧ RepL K cA H Z xs vs [] ∧ fp = [] ∧ o = false := by
  obtain ⟨p, vs, g, e, hl, ⟨ho, hc⟩, ef, hg⟩ := h
  subst ho
  have := hg rfl
  subst this
  refine ⟨p, vs, e, ?_, hl, ef, rfl⟩
  rcases hc with ⟨_, r⟩ | r
  · exact .inl r
  · exact .inr r
theorem repL_fl {xs : List D} {vs : List V} {g : FP} (h : RepL K cA H Z xs vs g) (hf : isFL xs = true) : RepL K cA H Z xs vs [] := by
  have e := repL_isF xs h hf
  subst e
  exact h
theorem new_lst {xs : List D} {vs : List V} {p : Addr} (w : Wf H Z []) (h : RepL K cA H Z xs vs []) (hp : H p = none) :
    RepD K cA (upd H p (.lst vs)) Z (.lst true xs) (.ref p) [p] ∧ Wf (upd H p (.lst vs)) Z [p] ∧ Fr H Z [] (upd H p (.lst vs)) Z [p] := by
  refine ⟨⟨p, vs, [], rfl, repL_mono xs (fun _ z => z) (fun a o _ e => keep_new hp a o e) h, ⟨upd_same, fun q => nomatch q⟩, rfl, fun q => nomatch q⟩, wf_new w hp (fun a m => nomatch m), fr_new hp⟩
theorem new_tup {xs : List D} {vs : List V} {p : Addr} {ob : Obj} (w : Wf H Z []) (h : RepL K cA H Z xs vs []) (hp : H p = none) (ho : ob.dict = none) :
    RepD K cA (upd H p (.frz ob (.tup vs))) (ZU Z [p]) (.tup xs) (.ref p) [] ∧ Wf (upd H p (.frz ob (.tup vs))) (ZU Z [p]) [] ∧ Fr H Z [] (upd H p (.frz ob (.tup vs))) (ZU Z [p]) [] := by
  refine ⟨⟨p, vs, [], rfl, repL_mono xs zu_sub (fun a o _ e => keep_new hp a o e) h, ⟨rfl, .inl ⟨.inr (by simp), ob, upd_same, ho⟩⟩, rfl, fun _ => rfl⟩, ?_, ?_⟩
  · exact (wf_new w hp (fun a m => nomatch m) : Wf (upd H p (.frz ob (.tup vs))) Z ([p] ++ [])).freeze fun a m => ⟨.frz ob (.tup vs), by
      have : a = p := by simpa using m
      subst this; exact upd_same⟩
  · exact Fr.freeze (fp := [p]) (M := []) (fr_new hp)
theorem wf0 {L : FP} (w : Wf H Z L) : Wf H Z [] := w.less (List.nil_sublist _)
theorem fr0 {L : FP} {H' : Hp} {Z' : ZS} {fp : FP} (f : Fr H Z [] H' Z' fp) : Fr H Z L H' Z' fp := f.more fun _ m => nomatch m
end
theorem vop_catL {K : PySem.W.Frag} {cA : Str → Addr} : VOp2 K cA rCat gCatL := by
  refine ⟨@fun d1 d2 d v1 v2 H Z f1 f2 Q h1 h2 w hg q => ?_⟩
  unfold gCatL at hg
  split at hg
  · rename_i o1 xs o2 ys
    split at hg
    · rename_i hc
      cases hg
      obtain ⟨p, vs, g, rfl, e1, r1, _, _⟩ := rep_lst h1
      obtain ⟨p', ws, g', rfl, e2, r2, _, _⟩ := rep_lst h2
      have l1 := repL_len r1
      have l2 := repL_len r2
      refine ⟨p, p', vs, ws, rfl, rfl, e1, e2, cap_le (by omega), fun p0 hp => ?_⟩
      obtain ⟨a, b, c⟩ := new_lst (wf0 w) (repL_append (repL_fl r1 hc.1) (repL_fl r2 hc.2.1)) hp
      exact q _ _ _ _ a b (fr0 c)
    · cases hg
  · cases hg
def gCatT : D → D → Option D
  | .n .tup _ xs, .n .tup _ ys => if xs.length + ys.length ≤ cap then some (.tup (xs ++ ys)) else none
  | _, _ => none
theorem vop_catT {K : PySem.W.Frag} {cA : Str → Addr} : VOp2 K cA (rCatN K) gCatT := by
  refine ⟨@fun d1 d2 d v1 v2 H Z f1 f2 Q h1 h2 w hg q => ?_⟩
  unfold gCatT at hg
  split at hg
  · rename_i o1 xs o2 ys
    split at hg
    · rename_i hc
      cases hg
      obtain ⟨p, vs, rfl, e1, r1, ef1, _, c1⟩ := rep_tup h1
      obtain ⟨p', ws, rfl, e2, r2, ef2, _, c2⟩ := rep_tup h2
      have l1 := repL_len r1
      have l2 := repL_len r2
      have rr := repL_append r1 r2
      refine ⟨p, p', vs, ws, rfl, rfl, e1, e2, cap_le (by omega), fun e => ?_, fun n1 e => ?_, fun n1 n2 p0 ob hp ho => ?_⟩
      · subst e
        exact q _ H Z [] ⟨p', ws, [], rfl, rr, ⟨rfl, c2⟩, rfl, fun _ => rfl⟩ (wf0 w) (Fr.refl.less fun _ m => nomatch m)
      · subst e
        exact q _ H Z [] ⟨p, vs, [], rfl, by simpa using rr, ⟨rfl, c1⟩, rfl, fun _ => rfl⟩ (wf0 w) (Fr.refl.less fun _ m => nomatch m)
      · obtain ⟨a, b, c⟩ := new_tup (wf0 w) rr hp ho
        exact q _ _ _ _ a b (fr0 c)
    · cases hg
  · cases hg
def gCatS : D → D → Option D
  | .a (.str x), .a (.str y) => if x.length + y.length ≤ cap then some (.str (x ++ y)) else none
  | _, _ => none
theorem vop_catS {K : PySem.W.Frag} {cA : Str → Addr} : VOp2 K cA (fun x y H Q => ∃ i j, x = .str i ∧ y = .str j ∧ i.length + j.length ≤ sizeLine ∧ Q (.str (i ++ j)) H) gCatS := vop_at fun d1 d2 d hg => by
  unfold gCatS at hg
  split at hg
  · rename_i x y
    split at hg
    · rename_i hc
      cases hg
      exact ⟨_, _, _, rfl, rfl, rfl, fun H Q q => ⟨x, y, rfl, rfl, cap_le hc, q⟩⟩
    · cases hg
  · cases hg
abbrev gAddI : D → D → Option D := gII (fun _ _ => true) fun i j => i + j
abbrev gSub : D → D → Option D := gII (fun _ _ => true) fun i j => i - j
def gAdd : D → D → Option D := gOr gAddI (gOr gCatL (gOr gCatT gCatS))
def gRep : D → D → Option D
  | .n .lst _ xs, .a (.int k) => if isFL xs = true ∧ -1000000 ≤ k ∧ k ≤ 1000000 ∧ xs.length * k.toNat ≤ cap then some (.lst true (List.replicate k.toNat xs).flatten) else none
  | _, _ => none
theorem repL_rep {K : PySem.W.Frag} {cA : Str → Addr} {H : Hp} {Z : ZS} {xs : List D} {vs : List V} (h : RepL K cA H Z xs vs []) : ∀ n : Nat, RepL K cA H Z (List.replicate n xs).flatten (List.replicate n vs).flatten []
  | 0 => ⟨rfl, rfl⟩
  | n + 1 => by
    rw [List.replicate_succ, List.replicate_succ, List.flatten_cons, List.flatten_cons]
    exact repL_append h (repL_rep h n)
theorem vop_rep {K : PySem.W.Frag} {cA : Str → Addr} : VOp2 K cA rRep gRep := by
  refine ⟨@fun d1 d2 d v1 v2 H Z f1 f2 Q h1 h2 w hg q => ?_⟩
  unfold gRep at hg
  split at hg
  · rename_i o1 xs k
    split at hg
    · rename_i hc
      cases hg
      obtain ⟨p, vs, g, rfl, e1, r1, _, _⟩ := rep_lst h1
      obtain ⟨e3, e4⟩ := h2
      subst e3
      have l1 := repL_len r1
      refine ⟨p, k, vs, rfl, rfl, e1, by omega, by omega, cap_le (by rw [l1]; exact hc.2.2.2), fun p0 hp => ?_⟩
      obtain ⟨a, b, c⟩ := new_lst (wf0 w) (repL_rep (repL_fl r1 hc.1) k.toNat) hp
      exact q _ _ _ _ a b (fr0 c)
    · cases hg
  · cases hg
def mulOk (i j : Int) : Bool := decide ((Builtin.Int.intBits i : Int) + (Builtin.Int.intBits j : Int) ≤ 134217728)
abbrev gMulI : D → D → Option D := gII mulOk fun i j => i * j
def gMul : D → D → Option D := gOr gMulI gRep
def divOk (i j : Int) : Bool := decide (0 < j) && (decide (j < 1073741824) || decide (j.natAbs.log2 < 9000))
abbrev gFdiv : D → D → Option D := gII divOk fun i j => i / j
abbrev gMod : D → D → Option D := gII (fun _ j => decide (0 < j)) fun i j => i % j
def powOk (i j : Int) : Bool := decide (0 ≤ j) && (decide (j ≤ 1000000) && decide (i.natAbs < 2 ^ 64))
abbrev gPow : D → D → Option D := gII powOk fun i j => i ^ j.toNat
abbrev gShl : D → D → Option D := gII powOk fun i j => i * 2 ^ j.toNat
abbrev gShr : D → D → Option D := gII (fun _ j => decide (0 ≤ j)) fun i j => i / 2 ^ j.toNat
abbrev gAnd : D → D → Option D := gII (fun _ _ => true) fun i j => Builtin.bitAnd i j
abbrev gOrB : D → D → Option D := gII (fun _ _ => true) fun i j => Builtin.bitOr i j
section
variable {X : Cx} {cA : Str → Addr} {W : WX} {fa fb : Env → Out D} {a b : Expr} {pos : Pos}
theorem divOk_w {i j : Int} (h : divOk i j = true) : CDivW i j := by
  unfold divOk at h
  simp only [Bool.and_eq_true, Bool.or_eq_true, decide_eq_true_eq] at h
  refine ⟨h.1, ?_⟩
  rcases h.2 with h2 | h2
  · have h3 : j.natAbs < 2 ^ 30 := by have := h.1; omega
    exact Nat.lt_of_lt_of_le (PySem.Flt.log2_lt_of (by decide) h3) (by decide)
  · exact h2
theorem mulOk_c {i j : Int} (h : mulOk i j = true) : CMulX i j := by
  unfold mulOk at h
  unfold CMulX
  exact of_decide_eq_true h
theorem powOk_c {i j : Int} (h : powOk i j = true) : CPow i j := by
  unfold powOk at h
  simp only [Bool.and_eq_true, decide_eq_true_eq] at h
  exact ⟨h.1, h.2.1, h.2.2⟩
theorem de_add (ha : DE X cA W fa a) (hb : DE X cA W fb b) : DE X cA W (dOp2 gAdd fa fb) (.BinOp a .Add b pos) :=
  de_op (op_add.or (op_cat.or (op_catN.or op_add_str))) (vop_or vop_ii0 (vop_or vop_catL (vop_or vop_catT vop_catS))) ha hb
theorem de_sub (ha : DE X cA W fa a) (hb : DE X cA W fb b) : DE X cA W (dOp2 gSub fa fb) (.BinOp a .Sub b pos) := de_op op_sub vop_ii0 ha hb
theorem de_mul (ha : DE X cA W fa a) (hb : DE X cA W fb b) : DE X cA W (dOp2 gMul fa fb) (.BinOp a .Mult b pos) :=
  de_op (op_mulX.or op_rep) (vop_or (vop_ii fun i j h => mulOk_c h) vop_rep) ha hb
theorem de_fdiv (ha : DE X cA W fa a) (hb : DE X cA W fb b) : DE X cA W (dOp2 gFdiv fa fb) (.BinOp a .FloorDiv b pos) := de_op op_fdivW (vop_ii fun i j h => divOk_w h) ha hb
theorem de_mod (ha : DE X cA W fa a) (hb : DE X cA W fb b) : DE X cA W (dOp2 gMod fa fb) (.BinOp a .Mod b pos) := de_op op_mod (vop_ii fun i j h => of_decide_eq_true h) ha hb
theorem de_pow (ha : DE X cA W fa a) (hb : DE X cA W fb b) : DE X cA W (dOp2 gPow fa fb) (.BinOp a .Pow b pos) := de_op op_pow (vop_ii fun i j h => powOk_c h) ha hb
theorem de_shl (ha : DE X cA W fa a) (hb : DE X cA W fb b) : DE X cA W (dOp2 gShl fa fb) (.BinOp a .LShift b pos) := de_op op_shl (vop_ii fun i j h => powOk_c h) ha hb
theorem de_shr (ha : DE X cA W fa a) (hb : DE X cA W fb b) : DE X cA W (dOp2 gShr fa fb) (.BinOp a .RShift b pos) := de_op op_shr (vop_ii fun i j h => of_decide_eq_true h) ha hb
theorem de_and (ha : DE X cA W fa a) (hb : DE X cA W fb b) : DE X cA W (dOp2 gAnd fa fb) (.BinOp a .BitAnd b pos) := de_op op_and vop_ii0 ha hb
theorem de_or (ha : DE X cA W fa a) (hb : DE X cA W fb b) : DE X cA W (dOp2 gOrB fa fb) (.BinOp a .BitOr b pos) := de_op op_or vop_ii0 ha hb
end
structure VU (K : PySem.W.Frag) (cA : Str → Addr) (r : V → Hp → VK → Prop) (g : D → Option D) : Prop where
  run : ∀ {d1 d : D} {v1 : V} {H : Hp} {Z : ZS} {f1 : FP} {Q : VK}, RepD K cA H Z d1 v1 f1 → Wf H Z [] → g d1 = some d →
  (∀ v H' Z' fp, RepD K cA H' Z' d v fp → Wf H' Z' fp → Fr H Z [] H' Z' fp → Q v H') → r v1 H Q
def dU (g : D → Option D) (fa : Env → Out D) : Env → Out D := fun ρ => match fa ρ with
  | .ok d1 ρ1 => (match g d1 with
    | some d => .ok d ρ1
    | none => .st)
  | .ex e ρ1 => .ex e ρ1
  | .st => .st
section
variable {X : Cx} {cA : Str → Addr} {W : WX} {fa fb : Env → Out D} {a b : Expr} {pos : Pos}
theorem te_un {K : PySem.W.Frag} {r : V → Hp → VK → Prop} {g : D → Option D} (V : VU K cA r g) : ∀ σ H Q, TEof K cA W (dU g fa) σ H Q → tUn r (TPof K cA W fa) σ H Q := by
  rintro σ H Q ⟨Z, L, ρ, r, w, p⟩
  refine ⟨Z, L, ρ, r, w, ?_⟩
  unfold dU at p
  cases ha : fa ρ with
  | st => rw [ha] at p; exact p
  | ex e ρ' => rw [ha] at p; exact p
  | ok d1 ρ1 =>
    rw [ha] at p
    intro v1 H1 Z1 L1 f1 r1 w1 h1 F1
    dsimp only at p
    cases hg : g d1 with
    | none => rw [hg] at p; exact p.elim
    | some d =>
      rw [hg] at p
      refine V.run h1 (wf0 w1) hg fun v H2 Z2 fp h2 w2 F2 => ?_
      obtain ⟨r3, w3, F3⟩ := hand0 w1 r1 F2 w2
      exact p v H2 Z2 L1 fp r3 w3 h2 (F1.trans F3)
theorem vu_at {K : PySem.W.Frag} {r : V → Hp → VK → Prop} {g : D → Option D} (h : ∀ d1 d, g d1 = some d → ∃ x z, d1 = .a x ∧ d = .a z ∧ ∀ H (Q : VK), Q z.v H → r x.v H Q) : VU K cA r g := by
  refine ⟨@fun d1 d v1 H Z f1 Q h1 w hg q => ?_⟩
  obtain ⟨x, z, rfl, rfl, hr⟩ := h d1 d hg
  obtain ⟨e1, e2⟩ := h1
  subst e1 e2
  exact hr H Q (q _ H Z [] ⟨rfl, rfl⟩ w Fr.refl)
theorem de_un {op : UnaryOp} {r : V → Hp → VK → Prop} {g : D → Option D} (ho : UnR X (unaryOp op) r) (V : VU X.K cA r g) (ha : DP X cA W fa a) : DE X cA W (dU g fa) (.UnaryOp op a pos) := PE.imp (pe_un ho ha) (te_un V)
def gI (f : Int → Int) : D → Option D
  | .a (.int i) => some (.int (f i))
  | _ => none
theorem vu_i {K : PySem.W.Frag} {f : Int → Int} : VU K cA (rU fun i => .int (f i)) (gI f) := vu_at fun d1 d hg => by
  unfold gI at hg
  split at hg
  · rename_i i
    cases hg
    exact ⟨_, _, rfl, rfl, fun H Q q => ⟨i, rfl, q⟩⟩
  · cases hg
abbrev gNeg : D → Option D := gI fun i => -i
abbrev gInv : D → Option D := gI Builtin.bitNot
theorem de_neg (ha : DE X cA W fa a) : DE X cA W (dU gNeg fa) (.UnaryOp .USub a pos) := de_un un_neg vu_i (dp_de ha)
theorem de_inv (ha : DE X cA W fa a) : DE X cA W (dU gInv fa) (.UnaryOp .Invert a pos) := de_un un_inv vu_i (dp_de ha)
def VC1 (K : PySem.W.Frag) (cA : Str → Addr) (r : List V → Hp → VK → Prop) (g : D → Option D) : Prop := VU K cA (fun v H Q => r [v] H Q) g
theorem te_c1 {K : PySem.W.Frag} {r : List V → Hp → VK → Prop} {g : D → Option D} (V : VC1 K cA r g) : ∀ σ H Q, TEof K cA W (dU g fa) σ H Q → tCB r (tCons (TPof K cA W fa) tNil) σ H Q := te_un (r := fun v H Q => r [v] H Q) V
theorem de_callB {id : String} {x : Str} {p : Pos} {r : List V → Hp → VK → Prop} {g : D → Option D} (hc : CallR X (.builtin id) r) (V : VC1 X.K cA r g) (hg : Gl X x) (hm : X.mg x = none) (hv : bootBuiltins x = some (.builtin id)) (ha : DP X cA W fa a)
    (hn : x ≠ "__name__" := by decide +kernel) (hdb : (x == ("__debug__" : Str)) = false := by kernel_rfl)
    (he : starEach [a] X.env = [(false, eval a X.env)] := by kernel_rfl) (hs : starEach [a] X.env = (false, eval a X.env) :: starEach [] X.env := by kernel_rfl) : DE X cA W (dU g fa) (.Call (.Name x p) [a] [] pos) :=
  PE.imp (pe_callB hc hg hm hv (pa_cons ha pa_nil hs) hn hdb hs rfl) (te_c1 V)
theorem de_callTy {T : String} {x : Str} {p : Pos} {r : List V → Hp → VK → Prop} {g : D → Option D} (hc : CallR X (.type T) r) (V : VC1 X.K cA r g) (hg : Gl X x) (hm : X.mg x = none) (hv : bootBuiltins x = some (.type T)) (ha : DP X cA W fa a)
    (hn : x ≠ "__name__" := by decide +kernel) (hdb : (x == ("__debug__" : Str)) = false := by kernel_rfl)
    (hs : starEach [a] X.env = (false, eval a X.env) :: starEach [] X.env := by kernel_rfl) : DE X cA W (dU g fa) (.Call (.Name x p) [a] [] pos) :=
  PE.imp (pe_callTy hc hg hm hv (pa_cons ha pa_nil hs) hn hdb hs rfl) (te_c1 V)
def gLen : D → Option D
  | .n .scr _ xs => some (.int xs.length)
  | .n .lst _ xs => some (.int xs.length)
  | .n .tup _ xs => some (.int xs.length)
  | .a (.str s) => if s.length ≤ cap then some (.int s.length) else none
  | _ => none
theorem vc_len {K : PySem.W.Frag} : VC1 K cA (fun xs H Q => ∃ x n, xs = [x] ∧ LenV K x H n ∧ Q (.int n) H) gLen := by
  refine ⟨@fun d1 d v1 H Z f1 Q h1 w hg q => ?_⟩
  unfold gLen at hg
  split at hg
  · rename_i o xs
    cases hg
    obtain ⟨p, vs, rfl, e1, r1, _⟩ := rep_scr h1
    exact ⟨_, xs.length, rfl, .inl ⟨vs, e1, (repL_len r1).symm⟩, q _ H Z [] ⟨rfl, rfl⟩ w Fr.refl⟩
  · rename_i o xs
    cases hg
    obtain ⟨p, vs, g, rfl, e1, r1, _, _⟩ := rep_lst h1
    exact ⟨_, xs.length, rfl, .inl ⟨vs, SqL.of e1, (repL_len r1).symm⟩, q _ H Z [] ⟨rfl, rfl⟩ w Fr.refl⟩
  · rename_i o xs
    cases hg
    obtain ⟨p, vs, rfl, e1, r1, _⟩ := rep_tup h1
    exact ⟨_, xs.length, rfl, .inr ⟨vs, e1, (repL_len r1).symm⟩, q _ H Z [] ⟨rfl, rfl⟩ w Fr.refl⟩
  · rename_i s
    split at hg
    · rename_i hs
      cases hg
      obtain ⟨e, _⟩ := h1
      subst e
      exact ⟨_, s.length, rfl, ⟨cap_le hs, rfl⟩, q _ H Z [] ⟨rfl, rfl⟩ w Fr.refl⟩
    · cases hg
  · cases hg
theorem de_len {x : Str} {p : Pos} (hg : Gl X x) (hm : X.mg x = none) (hv : bootBuiltins x = some (.builtin "len")) (ha : DP X cA W fa a) (hn : x ≠ "__name__" := by decide +kernel) (hdb : (x == ("__debug__" : Str)) = false := by kernel_rfl)
    (hs : starEach [a] X.env = (false, eval a X.env) :: starEach [] X.env := by kernel_rfl) : DE X cA W (dU gLen fa) (.Call (.Name x p) [a] [] pos) := de_callB call_len vc_len hg hm hv ha hn hdb hs hs
def gTuple : D → Option D
  | .n .lst _ xs => if isFL xs = true then some (.tup xs) else none
  | .n .tup _ xs => some (.tup xs)
  | _ => none
def gList : D → Option D
  | .n .lst _ xs => if isFL xs = true then some (.lst true xs) else none
  | .n .tup _ xs => some (.lst true xs)
  | _ => none
theorem vc_tuple {K : PySem.W.Frag} : VC1 K cA (rTupOf K) gTuple := by
  refine ⟨@fun d1 d v1 H Z f1 Q h1 w hg q => ?_⟩
  unfold gTuple at hg
  split at hg
  · rename_i o xs
    split at hg
    · rename_i hf
      cases hg
      obtain ⟨p, vs, g, rfl, e1, r1, _, _⟩ := rep_lst h1
      refine ⟨p, vs, rfl, .inl ⟨SqL.of e1, fun l ob hl ho => ?_⟩⟩
      obtain ⟨a, b, c⟩ := new_tup w (repL_fl r1 hf) hl ho
      exact q _ _ _ _ a b c
    · cases hg
  · rename_i o xs
    cases hg
    obtain ⟨p, vs, rfl, e1, r1, _, ho, c1⟩ := rep_tup h1
    exact ⟨p, vs, rfl, .inr ⟨e1, q _ H Z [] ⟨p, vs, [], rfl, r1, ⟨rfl, c1⟩, rfl, fun _ => rfl⟩ w Fr.refl⟩⟩
  · cases hg
theorem vc_list {K : PySem.W.Frag} : VC1 K cA (fun xs H Q => ∃ p ys, xs = [.ref p] ∧ (SqL K H p ys ∨ SqT K H p ys) ∧ ∀ l, H l = none → Q (.ref l) (upd H l (.lst ys))) gList := by
  refine ⟨@fun d1 d v1 H Z f1 Q h1 w hg q => ?_⟩
  unfold gList at hg
  split at hg
  · rename_i o xs
    split at hg
    · rename_i hf
      cases hg
      obtain ⟨p, vs, g, rfl, e1, r1, _, _⟩ := rep_lst h1
      refine ⟨p, vs, rfl, .inl (SqL.of e1), fun l hl => ?_⟩
      obtain ⟨a, b, c⟩ := new_lst w (repL_fl r1 hf) hl
      exact q _ _ _ _ a b c
    · cases hg
  · rename_i o xs
    cases hg
    obtain ⟨p, vs, rfl, e1, r1, _⟩ := rep_tup h1
    refine ⟨p, vs, rfl, .inr e1, fun l hl => ?_⟩
    obtain ⟨a, b, c⟩ := new_lst w r1 hl
    exact q _ _ _ _ a b c
  · cases hg
theorem de_tuple {x : Str} {p : Pos} (hg : Gl X x) (hm : X.mg x = none) (hv : bootBuiltins x = some (.type "tuple")) (ha : DP X cA W fa a) (hn : x ≠ "__name__" := by decide +kernel) (hdb : (x == ("__debug__" : Str)) = false := by kernel_rfl)
    (hs : starEach [a] X.env = (false, eval a X.env) :: starEach [] X.env := by kernel_rfl) : DE X cA W (dU gTuple fa) (.Call (.Name x p) [a] [] pos) := de_callTy call_tupleN vc_tuple hg hm hv ha hn hdb hs
theorem de_list {x : Str} {p : Pos} (hg : Gl X x) (hm : X.mg x = none) (hv : bootBuiltins x = some (.type "list")) (ha : DP X cA W fa a) (hn : x ≠ "__name__" := by decide +kernel) (hdb : (x == ("__debug__" : Str)) = false := by kernel_rfl)
    (hs : starEach [a] X.env = (false, eval a X.env) :: starEach [] X.env := by kernel_rfl) : DE X cA W (dU gList fa) (.Call (.Name x p) [a] [] pos) := de_callTy call_list_of vc_list hg hm hv ha hn hdb hs
def gInt : D → Option D
  | .a (.int i) => some (.int i)
  | .a (.bl k) => some (.int (if k = true then 1 else 0))
  | _ => none
theorem vc_int {K : PySem.W.Frag} : VC1 K cA (fun xs H Q => (∃ i, xs = [.int i] ∧ Q (.int i) H) ∨ ∃ k, xs = [.bl k] ∧ Q (.int (if k then 1 else 0)) H) gInt := vu_at fun d1 d hg => by
  unfold gInt at hg
  split at hg
  · rename_i i
    cases hg
    exact ⟨_, _, rfl, rfl, fun H Q q => .inl ⟨i, rfl, q⟩⟩
  · rename_i k
    cases hg
    exact ⟨_, _, rfl, rfl, fun H Q q => .inr ⟨k, rfl, q⟩⟩
  · cases hg
theorem de_intc {x : Str} {p : Pos} (hg : Gl X x) (hm : X.mg x = none) (hv : bootBuiltins x = some (.type "int")) (ha : DP X cA W fa a) (hn : x ≠ "__name__" := by decide +kernel) (hdb : (x == ("__debug__" : Str)) = false := by kernel_rfl)
    (hs : starEach [a] X.env = (false, eval a X.env) :: starEach [] X.env := by kernel_rfl) : DE X cA W (dU gInt fa) (.Call (.Name x p) [a] [] pos) := de_callTy call_int1 vc_int hg hm hv ha hn hdb hs
abbrev gAbs : D → Option D := gI fun i => if i < 0 then -i else i
theorem vc_abs {K : PySem.W.Frag} : VC1 K cA (fun xs H Q => ∃ i, xs = [.int i] ∧ Q (.int (if i < 0 then -i else i)) H) gAbs := vu_at fun d1 d hg => by
  unfold gAbs gI at hg
  split at hg
  · rename_i i
    cases hg
    exact ⟨_, _, rfl, rfl, fun H Q q => ⟨i, rfl, q⟩⟩
  · cases hg
theorem de_abs {x : Str} {p : Pos} (hg : Gl X x) (hm : X.mg x = none) (hv : bootBuiltins x = some (.builtin "abs")) (ha : DP X cA W fa a) (hn : x ≠ "__name__" := by decide +kernel) (hdb : (x == ("__debug__" : Str)) = false := by kernel_rfl)
    (hs : starEach [a] X.env = (false, eval a X.env) :: starEach [] X.env := by kernel_rfl) : DE X cA W (dU gAbs fa) (.Call (.Name x p) [a] [] pos) := de_callB call_abs vc_abs hg hm hv ha hn hdb hs hs
end
end DL
namespace DL
open PySem L2
def strG (s : Str) : Bool := s.cps.all (· < 0x110000)
mutual
def pD (n : Nat) : D → Bool
  | .a (.str s) => strG s
  | .a _ => true
  | .n .tup _ xs => (match n with | 0 => false | m + 1 => pDL m xs)
  | .n .lst _ xs => (match n with | 0 => false | m + 1 => pDL m xs)
  | _ => false
def pDL (n : Nat) : List D → Bool
  | [] => true
  | x :: xs => pD n x && pDL n xs
end
def eqA : At → At → Bool
  | .non, .non => true
  | .bl a, .bl b => a == b
  | .bl a, .int b => (if a = true then 1 else 0) == b
  | .int a, .bl b => a == (if b = true then 1 else 0)
  | .int a, .int b => a == b
  | .str a, .str b => a == b
  | _, _ => false
mutual
def eqD : D → D → Bool
  | .a x, .a y => eqA x y
  | .n .tup _ xs, .n .tup _ ys => eqDL xs ys
  | .n .lst _ xs, .n .lst _ ys => eqDL xs ys
  | _, _ => false
def eqDL : List D → List D → Bool
  | [], [] => true
  | x :: xs, y :: ys => eqD x y && eqDL xs ys
  | _, _ => false
end
mutual
def pyD : D → PyData
  | .a .non => .none
  | .a (.bl b) => .bool b
  | .a (.int i) => .int i
  | .a (.str s) => .str s
  | .n .tup _ xs => .tuple (pyL xs)
  | .n .lst _ xs => .list (pyL xs)
  | _ => .none
def pyL : List D → List PyData
  | [] => []
  | x :: xs => pyD x :: pyL xs
end
mutual
theorem lay_pD : ∀ (n : Nat) (d : D), pD n d = true → PyData.canLay0 (pyD d) = true ∧ PyData.depth (pyD d) ≤ n
  | n, .a .non, _ => ⟨by simp [pyD, PyData.canLay0], by simp [pyD, PyData.depth]⟩
  | n, .a (.bl b), _ => ⟨by simp [pyD, PyData.canLay0], by simp [pyD, PyData.depth]⟩
  | n, .a (.int i), _ => ⟨by simp [pyD, PyData.canLay0], by simp [pyD, PyData.depth]⟩
  | n, .a (.str s), h => ⟨by
      have h : strG s = true := by simpa [pD] using h
      simp only [pyD, PyData.canLay0]
      exact h, by simp [pyD, PyData.depth]⟩
  | 0, .n .tup _ xs, h => by simp [pD] at h
  | n + 1, .n .tup _ xs, h => by
    have h : pDL n xs = true := by simpa [pD] using h
    obtain ⟨a, b⟩ := lay_pDL n xs h
    exact ⟨by simpa [pyD, PyData.canLay0] using a, by simpa [pyD, PyData.depth] using b⟩
  | 0, .n .lst _ xs, h => by simp [pD] at h
  | n + 1, .n .lst _ xs, h => by
    have h : pDL n xs = true := by simpa [pD] using h
    obtain ⟨a, b⟩ := lay_pDL n xs h
    exact ⟨by simpa [pyD, PyData.canLay0] using a, by simpa [pyD, PyData.depth] using b⟩
  | _, .n .scr _ _, h => by simp [pD] at h
  | _, .n (.dct _) _ _, h => by simp [pD] at h
  | _, .n (.xt _) _ _, h => by simp [pD] at h
  | _, .n (.ins _ _) _ _, h => by simp [pD] at h
theorem lay_pDL : ∀ (n : Nat) (ds : List D), pDL n ds = true → PyData.canLayAll0 (pyL ds) = true ∧ PyData.depthAll (pyL ds) ≤ n
  | n, [], _ => ⟨by simp [pyL, PyData.canLayAll0], by simp [pyL, PyData.depthAll]⟩
  | n, x :: xs, h => by
    have h : (pD n x && pDL n xs) = true := by simpa only [pDL] using h
    rw [Bool.and_eq_true] at h
    obtain ⟨a, b⟩ := lay_pD n x h.1
    obtain ⟨c, d⟩ := lay_pDL n xs h.2
    refine ⟨?_, ?_⟩
    · simp only [pyL, PyData.canLayAll0, a, c, Bool.and_self]
    · simp only [pyL, PyData.depthAll]; omega
end
mutual
theorem eqv_D : ∀ (d e : D) (n m : Nat), pD n d = true → pD m e = true → PyData.eqv (pyD d) (pyD e) = eqD d e
  | .a x, .a y, _, _, _, _ => by cases x <;> cases y <;> simp [pyD, PyData.eqv, eqD, eqA]
  | .a x, .n .tup _ ys, _, _, _, _ => by cases x <;> simp [pyD, PyData.eqv, eqD]
  | .a x, .n .lst _ ys, _, _, _, _ => by cases x <;> simp [pyD, PyData.eqv, eqD]
  | .n .tup _ xs, .a y, _, _, _, _ => by cases y <;> simp [pyD, PyData.eqv, eqD]
  | .n .lst _ xs, .a y, _, _, _, _ => by cases y <;> simp [pyD, PyData.eqv, eqD]
  | .n .tup _ xs, .n .lst _ ys, _, _, _, _ => by simp [pyD, PyData.eqv, eqD]
  | .n .lst _ xs, .n .tup _ ys, _, _, _, _ => by simp [pyD, PyData.eqv, eqD]
  | .n .tup _ xs, .n .tup _ ys, n, m, h, k => by
    cases n with
    | zero => simp [pD] at h
    | succ n =>
      cases m with
      | zero => simp [pD] at k
      | succ m =>
        simp only [pyD, PyData.eqv, eqD]
        exact eqv_DL xs ys n m (by simpa [pD] using h) (by simpa [pD] using k)
  | .n .lst _ xs, .n .lst _ ys, n, m, h, k => by
    cases n with
    | zero => simp [pD] at h
    | succ n =>
      cases m with
      | zero => simp [pD] at k
      | succ m =>
        simp only [pyD, PyData.eqv, eqD]
        exact eqv_DL xs ys n m (by simpa [pD] using h) (by simpa [pD] using k)
  | .n .scr _ _, _, _, _, h, _ => by simp [pD] at h
  | .n (.dct _) _ _, _, _, _, h, _ => by simp [pD] at h
  | .n (.xt _) _ _, _, _, _, h, _ => by simp [pD] at h
  | .n (.ins _ _) _ _, _, _, _, h, _ => by simp [pD] at h
  | _, .n .scr _ _, _, _, _, h => by simp [pD] at h
  | _, .n (.dct _) _ _, _, _, _, h => by simp [pD] at h
  | _, .n (.xt _) _ _, _, _, _, h => by simp [pD] at h
  | _, .n (.ins _ _) _ _, _, _, _, h => by simp [pD] at h
theorem eqv_DL : ∀ (d e : List D) (n m : Nat), pDL n d = true → pDL m e = true → PyData.eqvAll (pyL d) (pyL e) = eqDL d e
  | [], [], _, _, _, _ => by simp [pyL, PyData.eqvAll, eqDL]
  | [], y :: ys, _, _, _, _ => by simp [pyL, PyData.eqvAll, eqDL]
  | x :: xs, [], _, _, _, _ => by simp [pyL, PyData.eqvAll, eqDL]
  | x :: xs, y :: ys, n, m, h, k => by
    have h : (pD n x && pDL n xs) = true := by simpa only [pDL] using h
    have k : (pD m y && pDL m ys) = true := by simpa only [pDL] using k
    rw [Bool.and_eq_true] at h k
    simp only [pyL, PyData.eqvAll, eqDL]
    rw [eqv_D x y n m h.1 k.1, eqv_DL xs ys n m h.2 k.2]
end
section
variable {K : PySem.W.Frag} {cA : Str → Addr} {H : Hp} {Z : ZS}
mutual
theorem rep_dp : ∀ (d : D) (n : Nat) {v : V} {fp : FP}, pD n d = true → RepD K cA H Z d v fp → Dp K H v (pyD d)
  | .a x, _, v, fp, _, h => by
    obtain ⟨e, _⟩ := h
    subst e
    cases x with
    | non => simpa [pyD, At.v] using Dp.non
    | bl b => simpa [pyD, At.v] using Dp.bl b
    | int i => simpa [pyD, At.v] using Dp.int i
    | str s => simpa [pyD, At.v] using Dp.str s
  | .n .tup o xs, n, v, fp, hp, h => by
    obtain ⟨p, vs, rfl, e1, r1, _⟩ := rep_tup h
    cases n with
    | zero => simp [pD] at hp
    | succ n =>
      simp only [pyD]
      exact Dp.tup e1 (rep_dpL xs n (by simpa [pD] using hp) r1)
  | .n .lst o xs, n, v, fp, hp, h => by
    obtain ⟨p, vs, g, rfl, e1, r1, _⟩ := rep_lst h
    cases n with
    | zero => simp [pD] at hp
    | succ n =>
      simp only [pyD]
      exact Dp.lst (SqL.of e1) (rep_dpL xs n (by simpa [pD] using hp) r1)
  | .n .scr _ _, _, _, _, h, _ => by simp [pD] at h
  | .n (.dct _) _ _, _, _, _, h, _ => by simp [pD] at h
  | .n (.xt _) _ _, _, _, _, h, _ => by simp [pD] at h
  | .n (.ins _ _) _ _, _, _, _, h, _ => by simp [pD] at h
theorem rep_dpL : ∀ (ds : List D) (n : Nat) {vs : List V} {g : FP}, pDL n ds = true → RepL K cA H Z ds vs g → DpAll K H vs (pyL ds)
  | [], _, _, _, _, h => by
    rw [h.1]
    simpa [pyL] using DpAll.nil
  | x :: xs, n, vs, g, hp, h => by
    have hp : (pD n x && pDL n xs) = true := by simpa only [pDL] using hp
    rw [Bool.and_eq_true] at hp
    obtain ⟨v, vs', f1, f2, ev, h1, h2, _⟩ := h
    subst ev
    simp only [pyL]
    exact DpAll.cons (rep_dp x n hp.1 h1) (rep_dpL xs n hp.2 h2)
end
theorem shaped_pD {d : D} {n : Nat} (h : pD n d = true) (hn : n ≤ 64) : SeqAt.shaped (pyD d) = true := by
  obtain ⟨a, b⟩ := lay_pD n d h
  unfold SeqAt.shaped
  rw [a, Bool.true_and, decide_eq_true_eq]
  exact Nat.le_trans b hn
end
def gEqA : D → D → Option D
  | .a x, .a y => if scal x.v y.v = true then some (.bl (decide (x = y))) else none
  | _, _ => none
def gNeA : D → D → Option D
  | .a x, .a y => if scal x.v y.v = true then some (.bl (!decide (x = y))) else none
  | _, _ => none
theorem At.v_inj : ∀ x y : At, x.v = y.v ↔ x = y := by
  intro x y
  cases x <;> cases y <;> simp [At.v]
def gEqP (d e : D) : Option D := if pD 60 d = true ∧ pD 60 e = true then some (.bl (eqD d e)) else none
def gNeP (d e : D) : Option D := if pD 60 d = true ∧ pD 60 e = true then some (.bl (!eqD d e)) else none
section
variable {K : PySem.W.Frag} {cA : Str → Addr}
theorem vop_eqA : VOp2 K cA rEq gEqA := vop_at fun d1 d2 d hg => by
  unfold gEqA at hg
  split at hg
  · rename_i x y
    split at hg
    · rename_i hs
      cases hg
      refine ⟨_, _, _, rfl, rfl, rfl, fun H Q q => ⟨hs, ?_⟩⟩
      have : decide (x.v = y.v) = decide (x = y) := decide_eq_decide.mpr (At.v_inj x y)
      rw [this]; exact q
    · cases hg
  · cases hg
theorem vop_neA : VOp2 K cA rNe gNeA := vop_at fun d1 d2 d hg => by
  unfold gNeA at hg
  split at hg
  · rename_i x y
    split at hg
    · rename_i hs
      cases hg
      refine ⟨_, _, _, rfl, rfl, rfl, fun H Q q => ⟨hs, ?_⟩⟩
      have : decide (x.v = y.v) = decide (x = y) := decide_eq_decide.mpr (At.v_inj x y)
      rw [this]; exact q
    · cases hg
  · cases hg
theorem vop_fin {H : Hp} {Z : ZS} {f1 f2 : FP} {Q : VK} {x : At} (w : Wf H Z (f1 ++ f2)) (q : ∀ v H' Z' fp, RepD K cA H' Z' (.a x) v fp → Wf H' Z' fp → Fr H Z (f1 ++ f2) H' Z' fp → Q v H') : Q x.v H :=
  q _ H Z [] ⟨rfl, rfl⟩ (wf0 w) (Fr.refl.less fun _ m => nomatch m)
theorem vop_eqP : VOp2 K cA (rEqD K) gEqP := by
  refine ⟨@fun d1 d2 d v1 v2 H Z f1 f2 Q h1 h2 w hg q => ?_⟩
  unfold gEqP at hg
  split at hg
  · rename_i hp
    cases hg
    refine ⟨pyD d1, pyD d2, rep_dp d1 60 hp.1 h1, rep_dp d2 60 hp.2 h2, shaped_pD hp.1 (by decide), shaped_pD hp.2 (by decide), ?_⟩
    rw [eqv_D d1 d2 60 60 hp.1 hp.2]
    exact vop_fin (x := .bl _) w q
  · cases hg
theorem vop_neP : VOp2 K cA (rNeD K) gNeP := by
  refine ⟨@fun d1 d2 d v1 v2 H Z f1 f2 Q h1 h2 w hg q => ?_⟩
  unfold gNeP at hg
  split at hg
  · rename_i hp
    cases hg
    refine ⟨pyD d1, pyD d2, rep_dp d1 60 hp.1 h1, rep_dp d2 60 hp.2 h2, shaped_pD hp.1 (by decide), shaped_pD hp.2 (by decide), ?_⟩
    rw [eqv_D d1 d2 60 60 hp.1 hp.2]
    exact vop_fin (x := .bl _) w q
  · cases hg
def isA : D → Bool
  | .a _ => true
  | _ => false
def anyEq (x : D) : List D → Bool
  | [] => false
  | y :: ys => eqD y x || anyEq x ys
def gInB (x : D) : D → Option Bool
  | .n .lst _ ys => if pD 60 x = true ∧ pDL 60 ys = true then some (anyEq x ys) else none
  | .n .tup _ ys => if isA x = true ∧ ys.all isA = true then some (anyEq x ys) else if pD 60 x = true ∧ pDL 60 ys = true then some (anyEq x ys) else none
  | .a (.str t) => (match x with
    | .a (.str s) => some (!(Builtin.Str.occurrences t s 0 t.length 1).isEmpty)
    | _ => none)
  | _ => none
def gIn (x y : D) : Option D := (gInB x y).map D.bl
def gNotIn (x y : D) : Option D := (gInB x y).map fun b => D.bl (!b)
theorem any_eqv {n m : Nat} {x : D} (hx : pD n x = true) : ∀ {ys : List D}, pDL m ys = true → ((pyL ys).any fun z => PyData.eqv z (pyD x)) = anyEq x ys
  | [], _ => rfl
  | y :: ys, h => by
    have h : (pD m y && pDL m ys) = true := by simpa only [pDL] using h
    rw [Bool.and_eq_true] at h
    simp only [pyL, List.any_cons, anyEq]
    rw [eqv_D y x m n h.1 hx, any_eqv hx h.2]
theorem flat_at (x : At) : flatV x.v = true := by cases x <;> rfl
theorem eqV_at (x y : At) : eqV x.v y.v = eqA x y := by cases x <;> cases y <;> simp [At.v, eqV, eqA]
theorem repL_atoms {H : Hp} {Z : ZS} : ∀ {ys : List D} {vs : List V} {g : FP}, RepL K cA H Z ys vs g → ys.all isA = true → vs.all flatV = true ∧ ∀ x : At, inV x.v vs = anyEq (.a x) ys
  | [], vs, g, h, _ => by
    rw [h.1]
    exact ⟨rfl, fun x => rfl⟩
  | y :: ys, vs, g, h, ha => by
    obtain ⟨v, vs', f1, f2, ev, h1, h2, _⟩ := h
    rw [List.all_cons, Bool.and_eq_true] at ha
    cases y with
    | n k o xs => simp [isA] at ha
    | a z =>
      obtain ⟨e1, _⟩ := h1
      subst ev e1
      obtain ⟨a, b⟩ := repL_atoms h2 ha.2
      refine ⟨by rw [List.all_cons, flat_at, a]; rfl, fun x => ?_⟩
      have b' := b x
      unfold inV at b' ⊢
      rw [List.any_cons, b', eqV_at]
      rfl
def rInAll (K : PySem.W.Frag) (neg : Bool) : R2 := fun x y H Q => (∃ b, ((∃ d ds, Dp K H x d ∧ Dp K H y (.list ds) ∧ SeqAt.shaped d = true ∧ SeqAt.shaped (.list ds) = true ∧ b = ds.any fun z => PyData.eqv z d) ∨
  (∃ p xs, y = .ref p ∧ (SqL K H p xs ∨ SqT K H p xs) ∧ flatV x = true ∧ xs.all flatV = true ∧ b = inV x xs) ∨ (∃ i j, x = .str i ∧ y = .str j ∧ b = !(Builtin.Str.occurrences j i 0 j.length 1).isEmpty) ∨ ∃ d ds, Dp K H x d ∧ Dp K H y (.tuple ds) ∧ SeqAt.shaped d = true ∧ SeqAt.shaped (.tuple ds) = true ∧ b = ds.any fun z => PyData.eqv z d) ∧ Q (.bl (if neg then !b else b)) H)
theorem gInB_ok {x y : D} {b neg : Bool} {v1 v2 : V} {H : Hp} {Z : ZS} {f1 f2 : FP} {Q : VK} (h1 : RepD K cA H Z x v1 f1) (h2 : RepD K cA H Z y v2 f2) (hg : gInB x y = some b) (q : Q (.bl (if neg then !b else b)) H) : rInAll K neg v1 v2 H Q := by
  refine ⟨b, ?_, q⟩
  unfold gInB at hg
  split at hg
  · rename_i o ys
    split at hg
    · rename_i hp
      cases hg
      obtain ⟨p, vs, g, rfl, e1, r1, _⟩ := rep_lst h2
      refine .inl ⟨pyD x, pyL ys, rep_dp x 60 hp.1 h1, Dp.lst (SqL.of e1) (rep_dpL ys 60 hp.2 r1), shaped_pD hp.1 (by decide), ?_, (any_eqv hp.1 hp.2).symm⟩
      exact shaped_pD (d := .lst o ys) (n := 61) (by simpa [pD] using hp.2) (by decide)
    · cases hg
  · rename_i o ys
    split at hg
    · rename_i hp
      cases hg
      obtain ⟨p, vs, rfl, e1, r1, _⟩ := rep_tup h2
      cases x with
      | n k o xs => simp [isA] at hp
      | a z =>
        obtain ⟨e, _⟩ := h1
        subst e
        obtain ⟨a, b⟩ := repL_atoms r1 hp.2
        exact .inr (.inl ⟨p, vs, rfl, .inr e1, flat_at z, a, (b z).symm⟩)
    · split at hg
      · rename_i hp
        cases hg
        obtain ⟨p, vs, rfl, e1, r1, _⟩ := rep_tup h2
        refine .inr (.inr (.inr ⟨pyD x, pyL ys, rep_dp x 60 hp.1 h1, Dp.tup e1 (rep_dpL ys 60 hp.2 r1), shaped_pD hp.1 (by decide), ?_, (any_eqv hp.1 hp.2).symm⟩))
        exact shaped_pD (d := .n .tup o ys) (n := 61) (by simpa [pD] using hp.2) (by decide)
      · cases hg
  · rename_i t
    split at hg
    · rename_i s
      cases hg
      obtain ⟨e1, _⟩ := h1
      obtain ⟨e2, _⟩ := h2
      subst e1 e2
      exact .inr (.inr (.inl ⟨s, t, rfl, rfl, rfl⟩))
    · cases hg
  · cases hg
theorem vop_notin : VOpP K cA (rInAll K true) gNotIn := by
  refine ⟨@fun d1 d2 d v1 v2 H Z f1 f2 Q h1 h2 hg q => ?_⟩
  unfold gNotIn at hg
  cases e : gInB d1 d2 with
  | none => rw [e] at hg; cases hg
  | some b =>
    rw [e] at hg
    cases hg
    exact gInB_ok h1 h2 e (q _ rfl)
theorem gNotIn_at : ∀ d1 d2 d, gNotIn d1 d2 = some d → ∃ x, d = .a x := fun d1 d2 d h => by
  unfold gNotIn at h
  cases e : gInB d1 d2 with
  | none => rw [e] at h; cases h
  | some b => rw [e] at h; cases h; exact ⟨_, rfl⟩
end
section
variable {X : Cx}
theorem op_notInT2 (hu : X.A.units + 65 < cLine) : OpR X (compareOp .NotIn) (fun x y H Q => ∃ d ds, Dp X.K H x d ∧ Dp X.K H y (.tuple ds) ∧ SeqAt.shaped d = true ∧ SeqAt.shaped (.tuple ds) = true ∧ Q (.bl (!ds.any fun z => PyData.eqv z d)) H) := by
  intro pins s σ H x y v u Q I rx ry h
  obtain ⟨d, ds, hd, he, sd, se, q⟩ := h
  obtain ⟨as, r1⟩ := Dp.reads I d x v hd rx
  obtain ⟨bs, r2⟩ := Dp.reads I (.tuple ds) y u he ry
  exact SeqAt.notIn_tuple_reads r2 r1 (SeqAt.canLay_of_shaped se) (SeqAt.canLay_of_shaped sd) (PyProof.Rows.room_in_shaped sd hu) ⟨.bl _, H, I, rfl, q⟩
theorem op_notInAll (hu : X.A.units + 65 < cLine) : OpR X (compareOp .NotIn) (rInAll X.K true) := by
  intro pins s σ H x y v u Q I rx ry h
  obtain ⟨b, h, q⟩ := h
  rcases h with ⟨d, ds, h1, h2, s1, s2, rfl⟩ | ⟨p, xs, h1, h2, h3, h4, rfl⟩ | ⟨i, j, h1, h2, rfl⟩ | ⟨d, ds, h1, h2, s1, s2, rfl⟩
  · exact op_notInD hu pins s σ H x y v u Q I rx ry ⟨d, ds, h1, h2, s1, s2, q⟩
  · exact op_notIn_seq pins s σ H x y v u Q I rx ry ⟨p, xs, h1, h2, h3, h4, q⟩
  · exact op_notin_str pins s σ H x y v u Q I rx ry ⟨i, j, h1, h2, q⟩
  · exact op_notInT2 hu pins s σ H x y v u Q I rx ry ⟨d, ds, h1, h2, s1, s2, q⟩
end
end DL
namespace DL
open PySem L2
abbrev gEq : D → D → Option D := gOr gEqA gEqP
abbrev gNe : D → D → Option D := gOr gNeA gNeP
abbrev gLt : D → D → Option D := gIB fun i j => decide (i < j)
abbrev gLe : D → D → Option D := gIB fun i j => decide (i ≤ j)
abbrev gGt : D → D → Option D := gIB fun i j => decide (j < i)
abbrev gGe : D → D → Option D := gIB fun i j => decide (j ≤ i)
structure CR2 (X : Cx) (cA : Str → Addr) (op : CmpOp) (g : D → D → Option D) : Prop where
  ex : ∃ r, OpR X (compareOp op) r ∧ VOp2 X.K cA r g ∧ op ≠ .In ∧ op ≠ .NotIn
section
variable {X : Cx} {cA : Str → Addr}
theorem cr_eq (hu : X.A.units + 64 < cLine) : CR2 X cA .Eq gEq := ⟨_, op_eq.or (op_eqD hu), vop_or vop_eqA vop_eqP, by decide, by decide⟩
theorem cr_ne (hu : X.A.units + 64 < cLine) : CR2 X cA .NotEq gNe := ⟨_, op_ne.or (op_neD hu), vop_or vop_neA vop_neP, by decide, by decide⟩
theorem cr_lt : CR2 X cA .Lt gLt := ⟨_, op_lt, vop_ib, by decide, by decide⟩
theorem cr_gt : CR2 X cA .Gt gGt := ⟨_, op_gt, vop_ib, by decide, by decide⟩
theorem cr_ge : CR2 X cA .GtE gGe := ⟨_, op_ge, vop_ib, by decide, by decide⟩
end
def dB (f : Env → Out D) : Env → Out Bool := fun ρ => match f ρ with
  | .ok (.a (.bl b)) ρ' => .ok b ρ'
  | .ok _ _ => .st
  | .ex e ρ' => .ex e ρ'
  | .st => .st
section
variable {X : Cx} {cA : Str → Addr} {W : WX} {fa fb fc : Env → Out D} {a b c : Expr} {pos : Pos}
theorem tt_of {K : PySem.W.Frag} {t : TE} {f : Env → Out D} (h : ∀ σ H Q, TEof K cA W f σ H Q → t σ H Q) : ∀ σ H Q, TTof K cA W (dB f) σ H Q → t σ H (fun x H' => ∃ k, x = .bl k ∧ Q k H') := by
  rintro σ H Q ⟨Z, L, ρ, r, w, p⟩
  refine h σ H _ ⟨Z, L, ρ, r, w, ?_⟩
  unfold dB at p
  cases hf : f ρ with
  | st => rw [hf] at p; exact p.elim
  | ex e ρ' => rw [hf] at p; exact p
  | ok d ρ' =>
    rw [hf] at p
    intro v H' Z' L' fp r' w' h' f'
    cases d with
    | n k o xs => exact p.elim
    | a x =>
      cases x with
      | bl k =>
        obtain ⟨e1, e2⟩ := h'
        subst e1 e2
        exact ⟨k, rfl, p H' Z' L' r' w' f'⟩
      | non => exact p.elim
      | int i => exact p.elim
      | str s => exact p.elim
theorem de_cr {op : CmpOp} {g : D → D → Option D} (C : CR2 X cA op g) (ha : DE X cA W fa a) (hb : DE X cA W fb b) : DE X cA W (dOp2 g fa fb) (.Compare a [op] [b] pos) := by
  obtain ⟨r, ho, V, h1, h2⟩ := C.ex
  exact de_cmp ho V ha hb (nomark b h1 h2)
theorem dt_cr {op : CmpOp} {g : D → D → Option D} (C : CR2 X cA op g) (ha : DE X cA W fa a) (hb : DE X cA W fb b) : DT X cA W (dB (dOp2 g fa fb)) (.Compare a [op] [b] pos) := by
  obtain ⟨r, ho, V, h1, h2⟩ := C.ex
  exact PT.imp (pt_cmpR ho ha hb (nomark b h1 h2)) (tt_of (te_op2 V))
theorem dt_notin (hu : X.A.units + 65 < cLine) (ha : DE X cA W fa a) (hb : DP X cA W fb b) (hm : behindInMarks .NotIn b = false := by kernel_rfl) : DT X cA W (dB (dOp2 gNotIn fa fb)) (.Compare a [.NotIn] [b] pos) :=
  PT.imp (pt_cmpR (op_notInAll hu) ha hb hm) (tt_of (te_opP vop_notin gNotIn_at))
theorem dt_val {f : Env → Out D} {e : Expr} (h : DE X cA W f e) (he : ∀ whole, isTrue e X.env whole = (do let v ← whole; standAt e.pos; holding [v] (truthy v)) := by intro _; kernel_rfl) : DT X cA W (dB f) e :=
  PT.imp (pt_val h he) (tt_of fun _ _ _ t => t)
def dAndT (f g : Env → Out Bool) : Env → Out Bool := fun ρ => match f ρ with
  | .ok true ρ1 => g ρ1
  | .ok false ρ1 => .ok false ρ1
  | .ex e ρ1 => .ex e ρ1
  | .st => .st
def dOrT (f g : Env → Out Bool) : Env → Out Bool := fun ρ => match f ρ with
  | .ok true ρ1 => .ok true ρ1
  | .ok false ρ1 => g ρ1
  | .ex e ρ1 => .ex e ρ1
  | .st => .st
def dNotT (f : Env → Out Bool) : Env → Out Bool := fun ρ => match f ρ with
  | .ok b ρ1 => .ok (!b) ρ1
  | .ex e ρ1 => .ex e ρ1
  | .st => .st
variable {ta tb : Env → Out Bool} {rest : List Expr}
theorem dw_and1 (ha : DT X cA W ta a) : DW X cA W ta (.BoolOp .And [a] pos) := pw_and1 ha
theorem dw_or1 (ha : DT X cA W ta a) : DW X cA W ta (.BoolOp .Or [a] pos) := pw_or1 ha
theorem tt_and {K : PySem.W.Frag} : ∀ σ H Q, TTof K cA W (dAndT ta tb) σ H Q → tAnd (TTof K cA W ta) (TTof K cA W tb) σ H Q := by
  rintro σ H Q ⟨Z, L, ρ, r0, w, p⟩
  refine ⟨Z, L, ρ, r0, w, ?_⟩
  unfold dAndT at p
  cases ha : ta ρ with
  | st => rw [ha] at p; exact p
  | ex e ρ' => rw [ha] at p; exact p
  | ok k ρ1 =>
    rw [ha] at p
    intro H1 Z1 L1 r1 w1 F1
    cases k with
    | false => exact p H1 Z1 L1 r1 w1 F1
    | true =>
      rw [if_pos rfl]
      refine ⟨Z1, L1, ρ1, r1, w1, ?_⟩
      dsimp only at p
      cases hb : tb ρ1 with
      | st => rw [hb] at p; exact p
      | ex e ρ' => rw [hb] at p; exact exw p F1
      | ok k ρ2 =>
        rw [hb] at p
        exact fun H2 Z2 L2 r2 w2 F2 => p H2 Z2 L2 r2 w2 (F1.trans F2)
theorem tt_or {K : PySem.W.Frag} : ∀ σ H Q, TTof K cA W (dOrT ta tb) σ H Q → tOr (TTof K cA W ta) (TTof K cA W tb) σ H Q := by
  rintro σ H Q ⟨Z, L, ρ, r0, w, p⟩
  refine ⟨Z, L, ρ, r0, w, ?_⟩
  unfold dOrT at p
  cases ha : ta ρ with
  | st => rw [ha] at p; exact p
  | ex e ρ' => rw [ha] at p; exact p
  | ok k ρ1 =>
    rw [ha] at p
    intro H1 Z1 L1 r1 w1 F1
    cases k with
    | true => exact p H1 Z1 L1 r1 w1 F1
    | false =>
      rw [if_neg Bool.false_ne_true]
      refine ⟨Z1, L1, ρ1, r1, w1, ?_⟩
      dsimp only at p
      cases hb : tb ρ1 with
      | st => rw [hb] at p; exact p
      | ex e ρ' => rw [hb] at p; exact exw p F1
      | ok k ρ2 =>
        rw [hb] at p
        exact fun H2 Z2 L2 r2 w2 F2 => p H2 Z2 L2 r2 w2 (F1.trans F2)
theorem tt_not {K : PySem.W.Frag} : ∀ σ H Q, TTof K cA W (dNotT ta) σ H Q → tNot (TTof K cA W ta) σ H Q := by
  rintro σ H Q ⟨Z, L, ρ, r0, w, p⟩
  refine ⟨Z, L, ρ, r0, w, ?_⟩
  unfold dNotT at p
  cases ha : ta ρ with
  | st => rw [ha] at p; exact p
  | ex e ρ' => rw [ha] at p; exact p
  | ok k ρ1 => rw [ha] at p; exact p
theorem dw_and (ha : DT X cA W ta a) (hb : DW X cA W tb (.BoolOp .And (b :: rest) pos)) : DW X cA W (dAndT ta tb) (.BoolOp .And (a :: b :: rest) pos) := PW.imp (pw_and ha hb) tt_and
theorem dw_or (ha : DT X cA W ta a) (hb : DW X cA W tb (.BoolOp .Or (b :: rest) pos)) : DW X cA W (dOrT ta tb) (.BoolOp .Or (a :: b :: rest) pos) := PW.imp (pw_or ha hb) tt_or
theorem dt_w {e : Expr} (h : DW X cA W ta e) : DT X cA W ta e := h.pt
theorem dt_not (ha : DT X cA W ta a) : DT X cA W (dNotT ta) (.UnaryOp .Not a pos) := PT.imp (pt_not ha) tt_not
def dAndV (f g : Env → Out D) : Env → Out D := fun ρ => match dB f ρ with
  | .ok true ρ1 => g ρ1
  | .ok false ρ1 => .ok (.bl false) ρ1
  | .ex e ρ1 => .ex e ρ1
  | .st => .st
def dOrV (f g : Env → Out D) : Env → Out D := fun ρ => match dB f ρ with
  | .ok true ρ1 => .ok (.bl true) ρ1
  | .ok false ρ1 => g ρ1
  | .ex e ρ1 => .ex e ρ1
  | .st => .st
def dNotV (f : Env → Out D) : Env → Out D := fun ρ => match dB f ρ with
  | .ok b ρ1 => .ok (.bl (!b)) ρ1
  | .ex e ρ1 => .ex e ρ1
  | .st => .st
theorem de_one {op} {f : Env → Out D} (h : DE X cA W f a) : DE X cA W f (.BoolOp op [a] pos) := pe_one h
theorem te_and {K : PySem.W.Frag} : ∀ σ H Q, TEof K cA W (dAndV fa fb) σ H Q → tAndV (TEof K cA W fa) (TEof K cA W fb) σ H Q := by
  rintro σ H Q ⟨Z, L, ρ, r0, w, p⟩
  refine tt_of (f := fa) (fun _ _ _ t => t) σ H (fun k H1 => if k = true then TEof K cA W fb σ H1 Q else Q (.bl false) H1) ⟨Z, L, ρ, r0, w, ?_⟩
  unfold dAndV at p
  cases ha : dB fa ρ with
  | st => rw [ha] at p; exact p
  | ex e ρ' => rw [ha] at p; exact p
  | ok k ρ1 =>
    rw [ha] at p
    intro H1 Z1 L1 r1 w1 F1
    cases k with
    | false =>
      show Q (.bl false) H1
      exact p _ H1 Z1 L1 [] r1 w1 ⟨rfl, rfl⟩ F1
    | true =>
      show TEof K cA W fb σ H1 Q
      refine ⟨Z1, L1, ρ1, r1, w1, ?_⟩
      dsimp only at p
      cases hb : fb ρ1 with
      | st => rw [hb] at p; exact p
      | ex e ρ' => rw [hb] at p; exact exw p F1
      | ok k ρ2 =>
        rw [hb] at p
        exact fun v H2 Z2 L2 fp r2 w2 h2 F2 => p v H2 Z2 L2 fp r2 w2 h2 (F1.trans F2)
theorem te_not {K : PySem.W.Frag} : ∀ σ H Q, TEof K cA W (dNotV fa) σ H Q → tNotV (TEof K cA W fa) σ H Q := by
  rintro σ H Q ⟨Z, L, ρ, r0, w, p⟩
  refine tt_of (f := fa) (fun _ _ _ t => t) σ H (fun k H1 => Q (.bl (!k)) H1) ⟨Z, L, ρ, r0, w, ?_⟩
  unfold dNotV at p
  cases ha : dB fa ρ with
  | st => rw [ha] at p; exact p
  | ex e ρ' => rw [ha] at p; exact p
  | ok k ρ1 =>
    rw [ha] at p
    exact fun H1 Z1 L1 r1 w1 F1 => p _ H1 Z1 L1 [] r1 w1 ⟨rfl, rfl⟩ F1
theorem de_and2 (ha : DE X cA W fa a) (hb : DE X cA W fb (.BoolOp .And (b :: rest) pos)) : DE X cA W (dAndV fa fb) (.BoolOp .And (a :: b :: rest) pos) := PE.imp (pe_and ha hb) te_and
theorem de_notV (ha : DE X cA W fa a) : DE X cA W (dNotV fa) (.UnaryOp .Not a pos) := PE.imp (pe_not ha) te_not
def dIfE (t : Env → Out Bool) (f g : Env → Out D) : Env → Out D := fun ρ => match t ρ with
  | .ok true ρ1 => f ρ1
  | .ok false ρ1 => g ρ1
  | .ex e ρ1 => .ex e ρ1
  | .st => .st
end
def dANil : Env → Out (List Ag) := fun ρ => .ok [] ρ
def dACons (f : Env → Out D) (g : Env → Out (List Ag)) : Env → Out (List Ag) := fun ρ => match f ρ with
  | .ok d ρ1 => (match g ρ1 with
    | .ok ds ρ2 => .ok (.d d :: ds) ρ2
    | .ex e ρ2 => .ex e ρ2
    | .st => .st)
  | .ex e ρ1 => .ex e ρ1
  | .st => .st
def dALent (i : Nat) (g : Env → Out (List Ag)) : Env → Out (List Ag) := fun ρ => match ρ[i]? with
  | some (some _) => (match g ρ with
    | .ok ds ρ2 => .ok (.s i :: ds) ρ2
    | .ex e ρ2 => .ex e ρ2
    | .st => .st)
  | _ => .st
section
variable {X : Cx} {cA : Str → Addr} {W : WX} {f : Env → Out D} {g : Env → Out (List Ag)} {e : Expr} {es : List Expr}
theorem da_nil : DA X cA W dANil [] := da_of pa_nil fun σ H Q Z L ρ r w p => p [] H Z L [] r w ⟨rfl, rfl⟩ Fr.refl
theorem da_cons (hf : DE X cA W f e) (hg : DA X cA W g es) (hs : starEach (e :: es) X.env = (false, eval e X.env) :: starEach es X.env := by kernel_rfl) : DA X cA W (dACons f g) (e :: es) := da_of (pa_cons hf hg hs) fun σ H Q Z L ρ r w p => by
  refine ⟨Z, L, ρ, r, w, ?_⟩
  unfold dACons at p
  cases ha : f ρ with
  | st => rw [ha] at p; exact p
  | ex e ρ' => rw [ha] at p; exact p
  | ok d1 ρ1 =>
    rw [ha] at p
    intro v1 H1 Z1 L1 f1 r1 w1 h1 F1
    refine ⟨Z1, L1, ρ1, r1, w1.less (List.sublist_append_right _ _), ?_⟩
    dsimp only at p
    cases hb : g ρ1 with
    | st => rw [hb] at p; exact p
    | ex e ρ' =>
      rw [hb] at p
      exact exw p (F1.less fun x m => by simp [m])
    | ok ds ρ2 =>
      rw [hb] at p
      intro vs H2 Z2 L2 f2 r2 w2 h2 F2
      have w12 : Wf H2 Z2 (f1 ++ (f2 ++ L2)) := w1.wait (repD_trk d1 h1) (repD_nt d1 h1) F2 w2
      have F12 := Fr.wait w1 F1 F2
      rw [← List.append_assoc] at w12 F12
      exact p (v1 :: vs) H2 Z2 L2 (f1 ++ f2) r2 w12 ⟨v1, vs, f1, f2, rfl, repD_wait w1 h1 F2, h2, rfl⟩ F12
theorem da_lent {i : Nat} (hf : PE X e (tVar i)) (hg : DA X cA W g es) (hs : starEach (e :: es) X.env = (false, eval e X.env) :: starEach es X.env := by kernel_rfl) : DA X cA W (dALent i g) (e :: es) := da_of (pa_cons hf hg hs) fun σ H Q Z L ρ r w p => by
  unfold dALent at p
  split at p
  · rename_i d hd
    obtain ⟨v, f0, f1, f2, hv, hr, ef, _, _⟩ := relL_at r hd
    refine ⟨v, hv, Z, L, ρ, r, w, ?_⟩
    cases hb : g ρ with
    | st => rw [hb] at p; exact p
    | ex e ρ' => rw [hb] at p; exact p
    | ok ds ρ2 =>
      rw [hb] at p
      exact fun vs H2 Z2 L2 fp r2 w2 h2 F2 => p (v :: vs) H2 Z2 L2 fp r2 w2 ⟨v, vs, rfl, hv, h2⟩ F2
  · exact p.elim
end
def agL : List Ag → Option (List D)
  | [] => some []
  | .d x :: xs => (agL xs).map (x :: ·)
  | .s _ :: _ => none
theorem repA_L {K : PySem.W.Frag} {cA : Str → Addr} {σ : L2.St} {H : Hp} {Z : ZS} : ∀ {ds : List Ag} {xs : List D} {vs : List V} {fp : FP}, agL ds = some xs → RepA K cA H Z σ ds vs fp → RepL K cA H Z xs vs fp
  | [], xs, vs, fp, e, h => by
    cases e
    exact h
  | .d x :: ds, xs, vs, fp, e, h => by
    obtain ⟨v, vs', f1, f2, ev, h1, h2, ef⟩ := h
    unfold agL at e
    cases hd : agL ds with
    | none => rw [hd] at e; cases e
    | some ys =>
      rw [hd] at e
      cases e
      exact ⟨v, vs', f1, f2, ev, h1, repA_L hd h2, ef⟩
  | .s i :: ds, xs, vs, fp, e, h => by simp [agL] at e
def dTup (g : Env → Out (List Ag)) : Env → Out D := fun ρ => match g ρ with
  | .ok ds ρ1 => (match agL ds with
    | some xs => if xs.length ≤ cap then .ok (.tup (frzL xs)) ρ1 else .st
    | none => .st)
  | .ex e ρ1 => .ex e ρ1
  | .st => .st
def dLst (g : Env → Out (List Ag)) : Env → Out D := fun ρ => match g ρ with
  | .ok ds ρ1 => (match agL ds with
    | some xs => if xs.length ≤ cap then .ok (.lst true xs) ρ1 else .st
    | none => .st)
  | .ex e ρ1 => .ex e ρ1
  | .st => .st
section
variable {X : Cx} {cA : Str → Addr} {W : WX} {g : Env → Out (List Ag)} {es : List Expr} {pos : Pos}
theorem de_tup {x1} (h : DA X cA W g es) : DE X cA W (dTup g) (.Tuple es x1 pos) := de_of (pe_tupN h) fun σ H Q Z L ρ r w p => by
  refine ⟨Z, L, ρ, r, w, ?_⟩
  unfold dTup at p
  cases ha : g ρ with
  | st => rw [ha] at p; exact p
  | ex e ρ' => rw [ha] at p; exact p
  | ok ds ρ1 =>
    rw [ha] at p
    dsimp only at p
    split at p
    · rename_i xs hx
      split at p
      · rename_i hl
        intro vs H1 Z1 L1 f1 r1 w1 h1 F1
        have hL := repA_L hx h1
        have len := repL_len hL
        refine ⟨cap_le (by omega), fun q ob hq ho => ?_⟩
        have wz := w1.freeze (repL_trk xs hL)
        obtain ⟨a, b, c⟩ := new_tup (wf0 wz) (repL_zu hL) hq ho
        obtain ⟨r3, w3, F3⟩ := hand0 wz (relL_zu r1) c b
        exact p _ _ _ L1 [] r3 w3 a (F1.freeze.trans F3)
      · exact p.elim
    · exact p.elim
theorem de_lst (h : DA X cA W g es) : DE X cA W (dLst g) (.List es pos) := de_of (pe_lst h) fun σ H Q Z L ρ r w p => by
  refine ⟨Z, L, ρ, r, w, ?_⟩
  unfold dLst at p
  cases ha : g ρ with
  | st => rw [ha] at p; exact p
  | ex e ρ' => rw [ha] at p; exact p
  | ok ds ρ1 =>
    rw [ha] at p
    dsimp only at p
    split at p
    · rename_i xs hx
      split at p
      · rename_i hl
        intro vs H1 Z1 L1 f1 r1 w1 h1 F1
        have hL := repA_L hx h1
        have len := repL_len hL
        refine ⟨cap_le (by omega), fun q hq => ?_⟩
        have kn := keep_new (o := .lst vs) hq
        have tr : ∀ a ∈ f1 ++ L1, ∃ o, H1 a = some o := fun a m => (List.mem_append.mp m).elim (repL_trk xs hL a) (relL_trk r1 a)
        refine p (.ref q) _ Z1 L1 (q :: f1) (relL_mono (fun _ z => z) (fun a o _ e => kn a o e) r1) (wf_new w1 hq tr) ⟨q, vs, f1, rfl, repL_mono xs (fun _ z => z) (fun a o _ e => kn a o e) hL, ⟨upd_same, fun z => nomatch z⟩, rfl, fun z => nomatch z⟩ (F1.trans (fr_new hq))
      · exact p.elim
    · exact p.elim
end
end DL
namespace DL
open PySem L2
def qC (x : At) : Env → Option At := fun _ => some x
def qVar (i : Nat) : Env → Option At := fun ρ => match ρ[i]? with
  | some (some (.a x)) => some x
  | _ => none
def qOp (f : Int → Int → Int) (g h : Env → Option At) : Env → Option At := fun ρ => match g ρ, h ρ with
  | some (.int i), some (.int j) => some (.int (f i j))
  | _, _ => none
section
variable {X : Cx} {cA : Str → Addr} {W : WX} {g h : Env → Option At} {a b : Expr} {pos : Pos}
end
def gIxO (x y : D) : Option D := match y with
  | .a (.int i) => (match x with
    | .n .lst _ xs => atI xs i
    | .n .scr _ xs => atI xs i
    | .n .tup _ xs => atI xs i
    | .a (.str s) => if s.length ≤ cap then (atI s.cps.toList i).map fun c => D.str ⟨#[c]⟩ else none
    | _ => none)
  | _ => none
def gIx (x y : D) : Option D := match gIxO x y with
  | some d => if isF d = true then some d else none
  | none => none
section
variable {K : PySem.W.Frag} {cA : Str → Addr} {H : Hp} {Z : ZS}
theorem atI_rep {xs : List D} {vs : List V} {g : FP} {i : Int} {d : D} (h : RepL K cA H Z xs vs g) (e : atI xs i = some d) : ∃ v f0 f1 f2, atI vs i = some v ∧ RepD K cA H Z d v f1 ∧ g = f0 ++ f1 ++ f2 := by
  unfold atI at e ⊢
  rw [repL_len h]
  cases hj : ixN xs.length i with
  | none => rw [hj] at e; cases e
  | some j =>
    rw [hj] at e
    exact repL_get h e
theorem ix_rep {x y d : D} {v1 v2 : V} {f1 f2 : FP} {Q : VK} (h1 : RepD K cA H Z x v1 f1) (h2 : RepD K cA H Z y v2 f2) (hg : gIxO x y = some d) (q : ∀ v f0 f f3, RepD K cA H Z d v f → (f = [] ∨ ∃ p, f1 = p :: (f0 ++ f ++ f3)) → Q v H) : rIx K v1 v2 H Q := by
  unfold gIxO at hg
  split at hg
  · rename_i i
    obtain ⟨e2, _⟩ := h2
    subst e2
    split at hg
    · rename_i o xs
      obtain ⟨p, vs, g, rfl, e1, r1, ef, hz⟩ := rep_lst h1
      obtain ⟨v, g0, g1, g2, hv, hr, eg⟩ := atI_rep r1 hg
      refine .inl ⟨p, vs, i, v, rfl, rfl, SqL.of e1, hv, q v g0 g1 g2 hr ?_⟩
      cases o with
      | true => exact .inr ⟨p, by rw [ef, eg]; rfl⟩
      | false =>
        have := (hz rfl).2
        rw [this] at eg
        left
        have e3 := congrArg List.length eg
        simp at e3
        exact List.eq_nil_of_length_eq_zero (by omega)
    · rename_i o xs
      obtain ⟨p, vs, rfl, e1, r1, ef, _⟩ := rep_scr h1
      obtain ⟨v, g0, g1, g2, hv, hr, eg⟩ := atI_rep r1 hg
      refine .inl ⟨p, vs, i, v, rfl, rfl, e1, hv, q v g0 g1 g2 hr ?_⟩
      left
      have e3 := congrArg List.length eg
      simp at e3
      exact List.eq_nil_of_length_eq_zero (by omega)
    · rename_i o xs
      obtain ⟨p, vs, rfl, e1, r1, ef, _⟩ := rep_tup h1
      obtain ⟨v, g0, g1, g2, hv, hr, eg⟩ := atI_rep r1 hg
      refine .inr (.inl ⟨p, vs, i, v, rfl, rfl, e1, hv, q v g0 g1 g2 hr ?_⟩)
      left
      have e3 := congrArg List.length eg
      simp at e3
      exact List.eq_nil_of_length_eq_zero (by omega)
    · rename_i s
      split at hg
      · rename_i hs
        obtain ⟨e1, _⟩ := h1
        subst e1
        cases hc : atI s.cps.toList i with
        | none => rw [hc] at hg; cases hg
        | some c =>
          rw [hc] at hg
          cases hg
          exact .inr (.inr ⟨s, i, c, rfl, rfl, cap_le hs, hc, q _ [] [] [] ⟨rfl, rfl⟩ (.inl rfl)⟩)
      · cases hg
    · cases hg
  · cases hg
theorem vop_ix : VOp2 K cA (rIx K) gIx := by
  refine ⟨@fun d1 d2 d v1 v2 H Z f1 f2 Q h1 h2 w hg q => ?_⟩
  unfold gIx at hg
  split at hg
  · rename_i d' hd
    split at hg
    · rename_i hf
      cases hg
      refine ix_rep h1 h2 hd fun v f0 f f3 hr _ => ?_
      have e := repD_isF d hr hf
      subst e
      exact q v H Z [] hr (wf0 w) (Fr.refl.less fun _ m => nomatch m)
    · cases hg
  · cases hg
end
section
variable {X : Cx} {cA : Str → Addr} {W : WX} {fa fb : Env → Out D} {a b : Expr} {pos : Pos}
theorem de_ix (ha : DE X cA W fa a) (hb : DE X cA W fb b) (hs : PlainIx b := by exact fun _ _ => rfl) : DE X cA W (dOp2 gIx fa fb) (.Subscript a b pos) := PE.imp (pe_ix ix_seq ha hb hs) (te_op2 vop_ix)
def dIxS (i : Nat) (fb : Env → Out D) : Env → Out D := fun ρ => match fb ρ with
  | .ok k ρ1 => (match ρ1[i]? with
    | some (some x) => (match gIxO x k with
      | some d => .ok d ρ1
      | none => .st)
    | _ => .st)
  | .ex e ρ1 => .ex e ρ1
  | .st => .st
theorem slot_now {K : PySem.W.Frag} {H : Hp} {Z : ZS} {ρ ρ1 : Env} {σ : L2.St} {L : FP} {i : Nat} {v : V} {d : D} (r : RelL K cA H Z ρ1 σ L) (h : ρ1[i]? = some (some d)) (hv : σ[i]? = some (some v)) : ∃ f0 f1 f2, RepD K cA H Z d v f1 ∧ L = f0 ++ f1 ++ f2 := by
  obtain ⟨v', f0, f1, f2, hv', hr, ef, _, _⟩ := relL_at r h
  rw [hv] at hv'
  cases hv'
  exact ⟨f0, f1, f2, hr, ef⟩
theorem dp_ixS {i : Nat} (ha : PE X a (tVar i)) (hb : DE X cA W fb b) (hi : ∀ ρ ρ1 : Env, True := by intros; trivial) (hs : PlainIx b := by exact fun _ _ => rfl) : DP X cA W (fun ρ => match ρ[i]? with | some (some _) => dIxS i fb ρ | _ => .st) (.Subscript a b pos) :=
  dp_of (pe_ix ix_seq ha hb hs) fun σ H Q Z L ρ r w p => by
    split at p
    · rename_i d0 hd0
      obtain ⟨v, _, _, _, hv, _, _, _, _⟩ := relL_at r hd0
      refine ⟨v, hv, Z, L, ρ, r, w, ?_⟩
      unfold dIxS at p
      cases hb' : fb ρ with
      | st => rw [hb'] at p; exact p
      | ex e ρ' => rw [hb'] at p; exact p
      | ok k ρ1 =>
        rw [hb'] at p
        intro y H1 Z1 L1 f1 r1 w1 h1 F1
        dsimp only at p
        split at p
        · rename_i x hx
          split at p
          · rename_i d hg
            obtain ⟨g0, g1, g2, hr, eL⟩ := slot_now (ρ := ρ) r1 hx hv
            refine ix_rep hr h1 hg fun u f0 f f3 hu _ => ?_
            exact p u H1 Z1 L1 f r1 (w1.less (List.sublist_append_right _ _)) hu (F1.less fun x m => by simp [m])
          · exact p.elim
        · exact p.elim
    · exact p.elim
def dIxV (i : Nat) (fb : Env → Out D) : Env → Out D := fun ρ => match ρ[i]? with
  | some (some _) => (match dIxS i fb ρ with
    | .ok d ρ1 => if isF d = true then .ok d ρ1 else .st
    | .ex e ρ1 => .ex e ρ1
    | .st => .st)
  | _ => .st
theorem de_dp {f : Env → Out D} {e : Expr} (h : DP X cA W f e) : DE X cA W (fun ρ => match f ρ with | .ok d ρ1 => if isF d = true then .ok d ρ1 else .st | .ex e ρ1 => .ex e ρ1 | .st => .st) e := de_of h fun σ H Q Z L ρ r w p => ⟨Z, L, ρ, r, w, by
  cases hf : f ρ with
  | st => rw [hf] at p; exact p
  | ex e ρ' => rw [hf] at p; exact p
  | ok d ρ1 =>
    rw [hf] at p
    dsimp only at p
    split at p
    · rename_i hd
      intro v H' Z' L' fp r' w' h' f'
      have e := repD_isF d h' hd
      subst e
      exact p v H' Z' L' [] r' w' h' f'
    · exact p.elim⟩
theorem de_ixS {i : Nat} (ha : PE X a (tVar i)) (hb : DE X cA W fb b) (hs : PlainIx b := by exact fun _ _ => rfl) : DE X cA W (dIxV i fb) (.Subscript a b pos) := by
  refine PE.imp (de_dp (dp_ixS ha hb (hs := hs))) fun σ H Q ⟨Z, L, ρ, r, w, p⟩ => ⟨Z, L, ρ, r, w, ?_⟩
  unfold dIxV at p
  dsimp only
  split at p
  · exact p
  · exact p.elim
def dIxP (fa : Env → Out D) (g : Env → Option At) : Env → Out D := fun ρ => match fa ρ with
  | .ok x ρ1 => (match g ρ1 with
    | some k => (match gIxO x (.a k) with
      | some d => .ok d ρ1
      | none => .st)
    | none => .st)
  | .ex e ρ1 => .ex e ρ1
  | .st => .st
end
def cutD (xs : List D) (lo hi : Option Int) : List D := (xs.drop (HT.sIx xs.length 0 lo)).take (HT.sIx xs.length xs.length hi - HT.sIx xs.length 0 lo)
def gSl (x : D) (lo hi : Option Int) : Option D := match x with
  | .n .lst _ xs => if isFL xs = true then some (.lst true (cutD xs lo hi)) else none
  | .n .scr _ xs => if isFL xs = true then some (.lst true (cutD xs lo hi)) else none
  | .n .tup _ xs => some (.tup (cutD xs lo hi))
  | .a (.str s) => if s.length ≤ cap then some (.str (cutS s lo hi)) else none
  | _ => none
section
variable {K : PySem.W.Frag} {cA : Str → Addr} {H : Hp} {Z : ZS}
theorem repL_drop {xs : List D} {vs : List V} (h : RepL K cA H Z xs vs []) : ∀ n : Nat, RepL K cA H Z (xs.drop n) (vs.drop n) [] := by
  induction xs generalizing vs with
  | nil => intro n; rw [h.1]; simp only [List.drop_nil]; exact ⟨rfl, rfl⟩
  | cons x xs ih =>
    obtain ⟨v, vs', f1, f2, ev, h1, h2, ef⟩ := h
    subst ev
    have e := List.append_eq_nil_iff.mp ef.symm
    rw [e.1] at h1
    rw [e.2] at h2
    intro n
    cases n with
    | zero => exact ⟨v, vs', [], [], rfl, h1, h2, rfl⟩
    | succ n => exact ih h2 n
theorem repL_take {xs : List D} {vs : List V} (h : RepL K cA H Z xs vs []) : ∀ n : Nat, RepL K cA H Z (xs.take n) (vs.take n) [] := by
  induction xs generalizing vs with
  | nil => intro n; rw [h.1]; simp only [List.take_nil]; exact ⟨rfl, rfl⟩
  | cons x xs ih =>
    obtain ⟨v, vs', f1, f2, ev, h1, h2, ef⟩ := h
    subst ev
    have e := List.append_eq_nil_iff.mp ef.symm
    rw [e.1] at h1
    rw [e.2] at h2
    intro n
    cases n with
    | zero => exact ⟨rfl, rfl⟩
    | succ n => exact ⟨v, vs'.take n, [], [], rfl, h1, ih h2 n, rfl⟩
theorem repL_cut {xs : List D} {vs : List V} (h : RepL K cA H Z xs vs []) (lo hi : Option Int) : RepL K cA H Z (cutD xs lo hi) (cutV vs lo hi) [] := by
  unfold cutD cutV
  rw [repL_len h]
  exact repL_take (repL_drop h _) _
abbrev rSlDD (K : PySem.W.Frag) : V → Option Int → Option Int → Hp → VK → Prop := fun x lo hi H Q => rSlL K x lo hi H Q ∨ rSlN K x lo hi H Q ∨ rSlS x lo hi H Q
theorem sl_rep {x d : D} {v1 : V} {f1 : FP} {lo hi : Option Int} {Q : VK} (h1 : RepD K cA H Z x v1 f1) (w : Wf H Z []) (hg : gSl x lo hi = some d) (q : ∀ v H' Z' fp, RepD K cA H' Z' d v fp → Wf H' Z' fp → Fr H Z [] H' Z' fp → Q v H') : rSlDD K v1 lo hi H Q := by
  unfold gSl at hg
  split at hg
  · rename_i o xs
    split at hg
    · rename_i hf
      cases hg
      obtain ⟨p, vs, g, rfl, e1, r1, _⟩ := rep_lst h1
      refine .inl ⟨p, vs, rfl, SqL.of e1, fun p0 hp => ?_⟩
      obtain ⟨a, b, c⟩ := new_lst w (repL_cut (repL_fl r1 hf) lo hi) hp
      exact q _ _ _ _ a b c
    · cases hg
  · rename_i o xs
    split at hg
    · rename_i hf
      cases hg
      obtain ⟨p, vs, rfl, e1, r1, _⟩ := rep_scr h1
      refine .inl ⟨p, vs, rfl, e1, fun p0 hp => ?_⟩
      obtain ⟨a, b, c⟩ := new_lst w (repL_cut r1 lo hi) hp
      exact q _ _ _ _ a b c
    · cases hg
  · rename_i o xs
    cases hg
    obtain ⟨p, vs, rfl, e1, r1, _, _, c1⟩ := rep_tup h1
    have rc := repL_cut r1 lo hi
    refine .inr (.inl ⟨p, vs, rfl, e1, fun e => ?_, fun _ p0 ob hp ho => ?_⟩)
    · have hv : cutV vs lo hi = vs := by
        unfold cutV
        rw [e.1, e.2, List.drop_zero, Nat.sub_zero, List.take_length]
      rw [hv] at rc
      exact q _ H Z [] ⟨p, vs, [], rfl, rc, ⟨rfl, c1⟩, rfl, fun _ => rfl⟩ w Fr.refl
    · obtain ⟨a, b, c⟩ := new_tup w rc hp ho
      exact q _ _ _ _ a b c
  · rename_i s
    split at hg
    · rename_i hs
      cases hg
      obtain ⟨e1, _⟩ := h1
      subst e1
      exact .inr (.inr ⟨s, rfl, cap_le hs, q _ H Z [] ⟨rfl, rfl⟩ w Fr.refl⟩)
    · cases hg
  · cases hg
end
def dPart : Option (Env → Out D) → Env → Out (Option Int)
  | none, ρ => .ok none ρ
  | some f, ρ => match f ρ with
    | .ok (.a (.int i)) ρ1 => .ok (some i) ρ1
    | .ok _ _ => .st
    | .ex e ρ1 => .ex e ρ1
    | .st => .st
def dSl (fa : Env → Out D) (lo hi : Option (Env → Out D)) : Env → Out D := fun ρ => match fa ρ with
  | .ok x ρ1 => (match dPart lo ρ1 with
    | .ok l ρ2 => (match dPart hi ρ2 with
      | .ok u ρ3 => (match gSl x l u with
        | some d => .ok d ρ3
        | none => .st)
      | .ex e ρ3 => .ex e ρ3
      | .st => .st)
    | .ex e ρ2 => .ex e ρ2
    | .st => .st)
  | .ex e ρ1 => .ex e ρ1
  | .st => .st
section
variable {X : Cx} {cA : Str → Addr} {W : WX} {fa fb : Env → Out D} {a b : Expr} {pos : Pos}
def PostO (K : PySem.W.Frag) (cA : Str → Addr) (W : WX) (σ : L2.St) (H : Hp) (Z : ZS) (L : FP) (Q : Option Int → Hp → Prop) : Out (Option Int) → Prop
  | .ok d ρ' => ∀ H' Z' L', RelL K cA H' Z' ρ' σ L' → Wf H' Z' L' → Fr H Z L H' Z' L' → Q d H'
  | .ex e ρ' => ∀ cls d H' Z' L', RelL K cA H' Z' ρ' σ L' → Wf H' Z' L' → ExR cA H' Z' e cls d → Fr H Z L H' Z' L' → W cls d σ H'
  | .st => False
def TOof (K : PySem.W.Frag) (cA : Str → Addr) (W : WX) (f : Env → Out (Option Int)) : TO := fun σ H Q => ∃ Z L ρ, RelL K cA H Z ρ σ L ∧ Wf H Z L ∧ PostO K cA W σ H Z L Q (f ρ)
def DO (X : Cx) (cA : Str → Addr) (W : WX) (f : Option (Env → Out D)) (e : Option Expr) : Prop := ∃ t, PO X e t ∧ ∀ σ H Q, TOof X.K cA W (dPart f) σ H Q → t σ H Q
theorem do_none : DO X cA W none none := ⟨_, po_none, fun σ H Q ⟨Z, L, ρ, r, w, p⟩ => p H Z L r w Fr.refl⟩
theorem do_some (h : DE X cA W fa a) : DO X cA W (some fa) (some a) := ⟨_, po_some h, fun σ H Q ⟨Z, L, ρ, r, w, p⟩ => by
  refine ⟨Z, L, ρ, r, w, ?_⟩
  unfold dPart at p
  dsimp only at p
  cases ha : fa ρ with
  | st => rw [ha] at p; exact p.elim
  | ex e ρ' => rw [ha] at p; exact p
  | ok x ρ1 =>
    rw [ha] at p
    intro v H1 Z1 L1 f1 r1 w1 h1 F1
    cases x with
    | n k o xs => exact p.elim
    | a x =>
      cases x with
      | int i =>
        obtain ⟨e1, e2⟩ := h1
        subst e1 e2
        exact ⟨i, rfl, p H1 Z1 L1 r1 w1 F1⟩
      | non => exact p.elim
      | bl b => exact p.elim
      | str s => exact p.elim⟩
theorem de_slice {lo hi : Option (Env → Out D)} {elo ehi : Option Expr} {p2 : Pos} (ha : DE X cA W fa a) (hl : DO X cA W lo elo) (hu : DO X cA W hi ehi) : DE X cA W (dSl fa lo hi) (.Subscript a (.Slice elo ehi none p2) pos) := by
  obtain ⟨tl, pl, il⟩ := hl
  obtain ⟨th, pu, iu⟩ := hu
  refine de_of (pe_slice (sl_list.or (sl_tupN.or sl_str)) ha pl pu) fun σ H Q Z L ρ r w p => ?_
  refine ⟨Z, L, ρ, r, w, ?_⟩
  unfold dSl at p
  cases ha' : fa ρ with
  | st => rw [ha'] at p; exact p
  | ex e ρ' => rw [ha'] at p; exact p
  | ok x ρ1 =>
    rw [ha'] at p
    intro v H1 Z1 L1 f1 r1 w1 h1 F1
    dsimp only at p
    refine il σ H1 _ ⟨Z1, L1, ρ1, r1, w1.less (List.sublist_append_right _ _), ?_⟩
    cases hl' : dPart lo ρ1 with
    | st => rw [hl'] at p; exact p
    | ex e ρ' => rw [hl'] at p; exact exw p (F1.less fun x m => by simp [m])
    | ok l ρ2 =>
      rw [hl'] at p
      intro H2 Z2 L2 r2 w2 F2
      dsimp only at p
      have w12 := w1.wait (repD_trk x h1) (repD_nt x h1) F2 w2
      have F12 := Fr.wait w1 F1 F2
      have h2 := repD_wait w1 h1 F2
      refine iu σ H2 _ ⟨Z2, L2, ρ2, r2, w2, ?_⟩
      cases hu' : dPart hi ρ2 with
      | st => rw [hu'] at p; exact p
      | ex e ρ' => rw [hu'] at p; exact exw p (F12.less fun x m => by simp [m])
      | ok u ρ3 =>
        rw [hu'] at p
        intro H3 Z3 L3 r3 w3 F3
        dsimp only at p
        have w13 := w12.wait (repD_trk x h2) (repD_nt x h2) F3 w3
        have F13 := Fr.wait w12 F12 F3
        have h3 := repD_wait w12 h2 F3
        cases hg : gSl x l u with
        | none => rw [hg] at p; exact p.elim
        | some d =>
          rw [hg] at p
          refine sl_rep h3 (wf0 w3) hg fun v H4 Z4 fp h4 w4 F4 => ?_
          obtain ⟨r5, w5, F5⟩ := hand0 w3 r3 F4 w4
          exact p v H4 Z4 L3 fp r5 w5 h4 ((F13.less fun x m => by simp [m]).trans F5)
end
end DL
namespace DL
open PySem L2
def RepIo (K : PySem.W.Frag) (cA : Str → Addr) (H : Hp) (Z : ZS) : Option Nat → Option D → List V → FP → Prop
  | some k, some d, vs, g => ∃ v, vs[k]? = some v ∧ RepD K cA H Z d v g
  | _, _, _, g => g = []
def PostF (K : PySem.W.Frag) (cA : Str → Addr) (kio : Option Nat) (vs : List V) (H : Hp) (Z : ZS) (L : FP) (Q : VK) (E : XK) : FR → Prop
  | .rt d io => ∀ v H' Z' fp g, RepIo K cA H' Z' kio io vs g → RepD K cA H' Z' d v fp → Wf H' Z' (fp ++ g) → Fr H Z L H' Z' (fp ++ g) → Q v H'
  | .ex e io => ∀ cls d H' Z' g, RepIo K cA H' Z' kio io vs g → Wf H' Z' g → ExR cA H' Z' e cls d → Fr H Z L H' Z' g → E cls d H'
  | .st => False
def spF (K : PySem.W.Frag) (cA : Str → Addr) (n : Nat) (kio : Option Nat) (F : List D → FR) : Sp := fun vs H Q E => vs.length = n ∧ ∃ ds Z L, RepL K cA H Z ds vs L ∧ Wf H Z L ∧ PostF K cA kio vs H Z L Q E (F ds)
def ioOf (kio : Option Nat) (ρ : Env) : Option D := match kio with
  | some k => (match ρ[k]? with
    | some (some d) => some d
    | _ => none)
  | none => none
def fnD (n : Nat) (kio : Option Nat) (body : Env → Fl) : List D → FR := fun ds => match body (ds.map some ++ List.replicate (n - ds.length) none) with
  | .nx ρ => .rt .non (ioOf kio ρ)
  | .rt d ρ => .rt d (ioOf kio ρ)
  | .ex e ρ => .ex e (ioOf kio ρ)
  | _ => .st
section
variable {K : PySem.W.Frag} {cA : Str → Addr}
theorem relL_nones {H : Hp} {Z : ZS} : ∀ n : Nat, RelL K cA H Z (List.replicate n none) (List.replicate n none) []
  | 0 => ⟨rfl, rfl⟩
  | n + 1 => ⟨none, _, rfl, relL_nones n⟩
theorem relL_start {H : Hp} {Z : ZS} {n : Nat} : ∀ {ds : List D} {vs : List V} {L : FP}, RepL K cA H Z ds vs L → RelL K cA H Z (ds.map some ++ List.replicate n none) (vs.map some ++ List.replicate n none) L
  | [], vs, L, h => by
    rw [h.1, h.2]
    exact relL_nones n
  | d :: ds, vs, L, h => by
    obtain ⟨v, vs', f1, f2, ev, h1, h2, ef⟩ := h
    subst ev
    exact ⟨v, _, f1, f2, rfl, h1, relL_start h2, ef⟩
theorem io_end {H : Hp} {Z : ZS} {kio : Option Nat} {ρ : Env} {σ0 σ : L2.St} {L : FP} {vs : List V} {n : Nat} (r : RelL K cA H Z ρ σ L) (pn : Pin kio (vs.map some ++ List.replicate n none) σ) : ∃ g, g.Sublist L ∧ RepIo K cA H Z kio (ioOf kio ρ) vs g := by
  cases kio with
  | none => exact ⟨[], List.nil_sublist _, rfl⟩
  | some k =>
    unfold ioOf
    dsimp only
    cases hk : ρ[k]? with
    | none => exact ⟨[], List.nil_sublist _, rfl⟩
    | some o =>
      cases o with
      | none => exact ⟨[], List.nil_sublist _, rfl⟩
      | some d =>
        obtain ⟨v, f0, f1, f2, hv, hr, ef, _, _⟩ := relL_at r hk
        have hp := pn k rfl
        rw [hv] at hp
        refine ⟨f1, ?_, v, ?_, hr⟩
        · rw [ef]
          exact (List.sublist_append_right f0 f1).trans (List.sublist_append_left _ _)
        · by_cases hl : k < vs.length
          · rw [List.getElem?_append_left (by simpa using hl), List.getElem?_map] at hp
            cases hq : vs[k]? with
            | none => rw [hq] at hp; cases hp
            | some u => rw [hq] at hp; cases hp; rfl
          · rw [List.getElem?_append_right (by simpa using hl), List.getElem?_replicate] at hp
            split at hp <;> cases hp
theorem wf_sub2 {H : Hp} {Z : ZS} {fp L g : FP} (w : Wf H Z (fp ++ L)) (h : g.Sublist L) : Wf H Z (fp ++ g) := w.less ((List.Sublist.refl fp).append h)
theorem fr_sub2 {H H' : Hp} {Z Z' : ZS} {L0 fp L g : FP} (f : Fr H Z L0 H' Z' (fp ++ L)) (h : g.Sublist L) : Fr H Z L0 H' Z' (fp ++ g) := f.less fun x m => by
  rcases List.mem_append.mp m with m | m
  · simp [m]
  · simp [h.subset m]
end
section
variable {P : Program} {w : World} {K : PySem.W.Frag} {cA : Str → Addr} {mg : Str → Option Value} {base : Heap}
end
def dCall (n : Nat) (F : List D → FR) (g : Env → Out (List Ag)) : Env → Out D := fun ρ => match g ρ with
  | .ok ds ρ1 => (match agL ds with
    | some xs => if xs.length = n then (match F (frzL xs) with
      | .rt d _ => .ok d ρ1
      | .ex e _ => .ex e ρ1
      | .st => .st) else .st
    | none => .st)
  | .ex e ρ1 => .ex e ρ1
  | .st => .st
def agL1 : List Ag → Option (List D × Nat × List D)
  | [] => none
  | .d x :: xs => (agL1 xs).map fun p => (x :: p.1, p.2)
  | .s i :: xs => (agL xs).map fun p => ([], i, p)
def dCallL (n : Nat) (kio : Option Nat) (F : List D → FR) (g : Env → Out (List Ag)) : Env → Out D := fun ρ => match g ρ with
  | .ok ds ρ1 => (match agL1 ds with
    | some (xs, i, ys) => (match ρ1[i]? with
      | some (some d0) => if kio = some xs.length ∧ xs.length + (ys.length + 1) = n then (match F (frzL xs ++ (d0 :: frzL ys)) with
        | .rt d (some d1) => .ok d (ρ1.set i (some d1))
        | .ex e (some d1) => .ex e (ρ1.set i (some d1))
        | _ => .st) else .st
      | _ => .st)
    | none => .st)
  | .ex e ρ1 => .ex e ρ1
  | .st => .st
def dCall0 (F : List D → FR) : Env → Out D := fun ρ => match F [] with
  | .rt d _ => .ok d ρ
  | .ex e _ => .ex e ρ
  | .st => .st
section
variable {X : Cx} {cA : Str → Addr} {W : WX} {g : Env → Out (List Ag)}
theorem call_in {K : PySem.W.Frag} {n : Nat} {kio : Option Nat} {F : List D → FR} {σ : L2.St} {H H1 : Hp} {Z Z1 : ZS} {L L1 f1 : FP} {ρ1 : Env} {xs : List D} {vs : List V} {Q : VK} (hn : xs.length = n)
    (r1 : RelL K cA H1 Z1 ρ1 σ L1) (w1 : Wf H1 Z1 (f1 ++ L1)) (hL : RepL K cA H1 Z1 xs vs f1) (F1 : Fr H Z L H1 Z1 (f1 ++ L1))
    (p : PostE K cA W σ H Z L Q (match F (frzL xs) with | .rt d _ => .ok d ρ1 | .ex e _ => .ex e ρ1 | .st => .st)) : spF K cA n kio F vs H1 Q (WE W σ) := by
  have wz := w1.freeze (repL_trk xs hL)
  have hf := repL_zu hL
  refine ⟨by rw [repL_len hL]; exact hn, frzL xs, ZU Z1 f1, [], hf, wf0 wz, ?_⟩
  have F1z := F1.freeze
  cases hF : F (frzL xs) with
  | st => rw [hF] at p; exact p
  | rt d io =>
    rw [hF] at p
    intro v H2 Z2 fp g' ri h2 w2 F2
    have F2' : Fr H1 (ZU Z1 f1) [] H2 Z2 fp := F2.less fun x m => by simp [m]
    obtain ⟨r3, w3, F3⟩ := hand0 wz (relL_zu r1) F2' (w2.less (List.sublist_append_left _ _))
    exact p v H2 Z2 L1 fp r3 w3 h2 (F1z.trans F3)
  | ex e io =>
    rw [hF] at p
    intro cls d H2 Z2 g' ri w2 x2 F2
    have F2' : Fr H1 (ZU Z1 f1) [] H2 Z2 [] := F2.less fun x m => nomatch m
    obtain ⟨r3, w3, F3⟩ := hand0 wz (relL_zu r1) F2' (wf0 w2)
    exact p cls d H2 Z2 L1 r3 w3 x2 (F1z.trans F3)
theorem te_call {K : PySem.W.Frag} {n : Nat} {kio : Option Nat} {F : List D → FR} : ∀ σ H Q, TEof K cA W (dCall n F g) σ H Q → tCallS (spF K cA n kio F) (WE W) (TAof K cA W g) σ H Q := by
  rintro σ H Q ⟨Z, L, ρ, r, w, p⟩
  refine ⟨Z, L, ρ, r, w, ?_⟩
  unfold dCall at p
  cases ha : g ρ with
  | st => rw [ha] at p; exact p
  | ex e ρ' => rw [ha] at p; exact p
  | ok ds ρ1 =>
    rw [ha] at p
    intro vs H1 Z1 L1 f1 r1 w1 h1 F1
    dsimp only at p
    split at p
    · rename_i xs hx
      split at p
      · rename_i hn
        exact call_in hn r1 w1 (repA_L hx h1) F1 p
      · exact p.elim
    · exact p.elim
theorem te_callL {K : PySem.W.Frag} {n : Nat} {kio : Option Nat} {F : List D → FR} : ∀ σ H Q, TEof K cA W (dCallL n kio F g) σ H Q → tCallS (spF K cA n kio F) (WE W) (TAof K cA W g) σ H Q := by
  rintro σ H Q ⟨Z, L, ρ, r, w, p⟩
  refine ⟨Z, L, ρ, r, w, ?_⟩
  unfold dCallL at p
  cases ha : g ρ with
  | st => rw [ha] at p; exact p
  | ex e ρ' => rw [ha] at p; exact p
  | ok ds ρ1 =>
    rw [ha] at p
    intro vs H1 Z1 L1 f1 r1 w1 h1 F1
    dsimp only at p
    split at p
    · rename_i xs i ys hx
      split at p
      · rename_i d0 hd0
        split at p
        · rename_i hk
          obtain ⟨hk, hn⟩ := hk
          -- the arguments apart
          have key : ∀ {ds : List Ag} {xs ys : List D} {vs : List V} {fp : FP}, agL1 ds = some (xs, i, ys) → RepA K cA H1 Z1 σ ds vs fp → ∃ us v ws g1 g2, vs = us ++ v :: ws ∧ RepL K cA H1 Z1 xs us g1 ∧ RepL K cA H1 Z1 ys ws g2 ∧ σ[i]? = some (some v) ∧ fp = g1 ++ g2 := by
            intro ds
            induction ds with
            | nil => intro xs ys vs fp e; simp [agL1] at e
            | cons a ds ih =>
              intro xs ys vs fp e h
              cases a with
              | d x =>
                obtain ⟨v, vs', f1, f2, ev, h1, h2, ef⟩ := h
                unfold agL1 at e
                cases hd : agL1 ds with
                | none => rw [hd] at e; cases e
                | some q =>
                  obtain ⟨q1, q2, q3⟩ := q
                  rw [hd] at e
                  cases e
                  obtain ⟨us, v', ws, g1, g2, e1, r1, r2, hv, e2⟩ := ih hd h2
                  exact ⟨v :: us, v', ws, f1 ++ g1, g2, by rw [ev, e1]; rfl, ⟨v, us, f1, g1, rfl, h1, r1, rfl⟩, r2, hv, by rw [ef, e2]; simp⟩
              | s j =>
                obtain ⟨v, vs', ev, hv, h2⟩ := h
                unfold agL1 at e
                cases hd : agL ds with
                | none => rw [hd] at e; cases e
                | some q =>
                  rw [hd] at e
                  cases e
                  exact ⟨[], v, vs', [], fp, by rw [ev]; rfl, ⟨rfl, rfl⟩, repA_L hd h2, hv, rfl⟩
          obtain ⟨us, v, ws, g1, g2, ev, hx1, hx2, hv, ef⟩ := key hx h1
          subst ev ef
          have tr : ∀ a ∈ g1 ++ g2, ∃ o, H1 a = some o := fun a m => (List.mem_append.mp m).elim (repL_trk _ hx1 a) (repL_trk _ hx2 a)
          have wz := w1.freeze tr
          have r1z : RelL K cA H1 (ZU Z1 (g1 ++ g2)) ρ1 σ L1 := relL_zu r1
          obtain ⟨v', f0, fd, f2, hv', hr, eL, put, cut⟩ := relL_at r1z hd0
          rw [hv] at hv'
          cases hv'
          have m1 : RepL K cA H1 (ZU Z1 (g1 ++ g2)) (frzL xs) us [] := repL_frz xs zu_sub (fun a m => .inr (by simp [m])) hx1
          have m2 : RepL K cA H1 (ZU Z1 (g1 ++ g2)) (frzL ys) ws [] := repL_frz ys zu_sub (fun a m => .inr (by simp [m])) hx2
          have hall : RepL K cA H1 (ZU Z1 (g1 ++ g2)) (frzL xs ++ (d0 :: frzL ys)) (us ++ v :: ws) fd := by
            have := repL_append m1 (ys := d0 :: frzL ys) (ws := v :: ws) (g := fd) ⟨v, ws, fd, [], rfl, hr, m2, by simp⟩
            simpa using this
          have lu : us.length = xs.length := repL_len hx1
          have lw : ws.length = ys.length := repL_len hx2
          -- the lent footprint is handed over, the rest waits
          have wzp : Wf H1 (ZU Z1 (g1 ++ g2)) ((f0 ++ f2) ++ fd) := by
            rw [eL] at wz
            refine wz.perm ?_
            rw [List.append_assoc, List.append_assoc]
            exact List.Perm.append_left _ List.perm_append_comm
          have cut1 := cut (H' := H1) (Z' := ZU Z1 (g1 ++ g2)) (fun _ z => z) (fun _ _ _ e => e)
          refine ⟨by simp [lu, lw]; omega, _, _, fd, hall, wzp.less (List.sublist_append_right _ _), ?_⟩
          have F1z : Fr H Z L H1 (ZU Z1 (g1 ++ g2)) L1 := F1.freeze
          have subL : ∀ x ∈ (f0 ++ f2) ++ fd, x ∈ L1 := fun x m => by rw [eL]; simp at m ⊢; rcases m with m | m | m <;> simp [m]
          have back : ∀ {H2 Z2 d1 M fp0} {g' : FP}, RepIo K cA H2 Z2 kio (some d1) (us ++ v :: ws) g' → Wf H2 Z2 (fp0 ++ g') → Fr H1 (ZU Z1 (g1 ++ g2)) fd H2 Z2 (fp0 ++ g') → M = f0 ++ g' ++ f2 →
              RelL K cA H2 Z2 (ρ1.set i (some d1)) σ M ∧ Wf H2 Z2 (fp0 ++ M) ∧ Fr H Z L H2 Z2 (fp0 ++ M) := by
            intro H2 Z2 d1 M fp0 g' ri w2 F2 eM
            subst eM hk
            obtain ⟨v2, hv2, hd1⟩ := ri
            rw [List.getElem?_append_right (by omega), lu, Nat.sub_self] at hv2
            cases hv2
            have w3 := wzp.wait (relL_trk cut1) (relL_nt cut1) F2 w2
            have F3 := ((F1z.less subL).wait wzp F2)
            have nd := List.nodup_append.mp wzp.nd
            have hset : σ.set i (some v) = σ := by
              apply List.ext_getElem?
              intro j
              by_cases hj : i = j
              · subst hj
                rw [hv]
                have hl : i < σ.length := (List.getElem?_eq_some_iff.mp hv).1
                rw [List.getElem?_set_self hl]
              · rw [List.getElem?_set_ne hj]
            have pr := put (H' := H2) (Z' := Z2) (d' := d1) (v' := v) (g := g') F2.zm (fun a o m e => F2.keep a o e fun q => by
              rcases m with m | m | m
              · exact (wzp.dj a (by simp [q])) m
              · exact nd.2.2 a (by simp [m]) a q rfl
              · exact nd.2.2 a (by simp [m]) a q rfl) hd1
            rw [hset] at pr
            have pm : ((f0 ++ f2) ++ (fp0 ++ g')).Perm (fp0 ++ (f0 ++ g' ++ f2)) := by
              refine (List.perm_append_comm_assoc (f0 ++ f2) fp0 g').trans (List.Perm.append_left fp0 ?_)
              rw [List.append_assoc, List.append_assoc]
              exact List.Perm.append_left f0 List.perm_append_comm
            exact ⟨pr, w3.perm pm, F3.less fun x m => pm.mem_iff.mpr m⟩
          cases hF : F (frzL xs ++ (d0 :: frzL ys)) with
          | st => rw [hF] at p; exact p.elim
          | rt d io =>
            rw [hF] at p
            cases io with
            | none => exact p.elim
            | some d1 =>
              intro v2 H2 Z2 fp g' ri h2 w2 F2
              obtain ⟨b1, b2, b3⟩ := back ri w2 F2 rfl
              exact p v2 H2 Z2 _ fp b1 b2 h2 b3
          | ex e io =>
            rw [hF] at p
            cases io with
            | none => exact p.elim
            | some d1 =>
              intro cls d H2 Z2 g' ri w2 x2 F2
              obtain ⟨b1, b2, b3⟩ := back (fp0 := []) ri w2 F2 rfl
              exact p cls d H2 Z2 _ b1 b2 x2 b3
        · exact p.elim
      · exact p.elim
    · exact p.elim
section
variable {k n : Nat} {kio : Option Nat} {f : Addr} {fd : FuncData} {ps : List Str} {F : List D → FR} {x : Str} {p pos : Pos} {e : Expr} {es : List Expr}
theorem de_call (Fo : FnOk X.prog X.w X.K X.mg X.base (L2.CX X.prog X.w) k f fd ps (spF X.K cA n kio F)) (hr : Room k X.A)
    (hg : Gl X x) (hm : X.mg x = some (.ref f)) (hk : PySem.W.keepIn X.K (.ref f) = true) (hb : Binds X.K fd ps []) (tk : Takes X W) (ha : DA X cA W g (e :: es))
    (hdb : (x == ("__debug__" : Str)) = false := by kernel_rfl) (he : starEach (e :: es) X.env = (false, eval e X.env) :: starEach es X.env := by kernel_rfl) (hpl : (backTo pos (starEach es X.env)).any (·.1) = false := by kernel_rfl) :
    DE X cA W (dCall n F g) (.Call (.Name x p) (e :: es) [] pos) := PE.imp (pe_callS Fo hr hg hm hk hb (passAt tk) ha hdb he hpl) te_call
theorem de_callL (Fo : FnOk X.prog X.w X.K X.mg X.base (L2.CX X.prog X.w) k f fd ps (spF X.K cA n kio F)) (hr : Room k X.A)
    (hg : Gl X x) (hm : X.mg x = some (.ref f)) (hk : PySem.W.keepIn X.K (.ref f) = true) (hb : Binds X.K fd ps []) (tk : Takes X W) (ha : DA X cA W g (e :: es))
    (hdb : (x == ("__debug__" : Str)) = false := by kernel_rfl) (he : starEach (e :: es) X.env = (false, eval e X.env) :: starEach es X.env := by kernel_rfl) (hpl : (backTo pos (starEach es X.env)).any (·.1) = false := by kernel_rfl) :
    DE X cA W (dCallL n kio F g) (.Call (.Name x p) (e :: es) [] pos) := PE.imp (pe_callS Fo hr hg hm hk hb (passAt tk) ha hdb he hpl) te_callL
end
end
end DL
namespace DL
open PySem L2
theorem Pin.refl {k : Option Nat} {σ : L2.St} : Pin k σ σ := fun _ _ => rfl
theorem Pin.trans {k : Option Nat} {σ σ1 σ2 : L2.St} (a : Pin k σ σ1) (b : Pin k σ1 σ2) : Pin k σ σ2 := fun i e => (b i e).trans (a i e)
theorem Pin.set {k : Option Nat} {σ : L2.St} {i : Nat} {v : Option V} (h : k ≠ some i) : Pin k σ (σ.set i v) := fun j e => by
  have : i ≠ j := fun z => h (by rw [z]; exact e)
  rw [List.getElem?_set_ne this]
section
variable {K : PySem.W.Frag} {cA : Str → Addr} {W : WX} {k : Option Nat}
theorem postS_tr {σ σ1 : L2.St} {H H1 : Hp} {Z Z1 : ZS} {L L1 : FP} {T : Ends} {o : Fl} (F : Fr H Z L H1 Z1 L1) (pn : Pin k σ σ1) (p : PostS K cA W k σ H Z L T o) : PostS K cA W k σ1 H1 Z1 L1 T o := by
  cases o with
  | st => exact p
  | nx ρ' => exact fun σ' H' Z' L' r w f q => p σ' H' Z' L' r w (F.trans f) (pn.trans q)
  | bk ρ' => exact fun σ' H' Z' L' r w f q => p σ' H' Z' L' r w (F.trans f) (pn.trans q)
  | ct ρ' => exact fun σ' H' Z' L' r w f q => p σ' H' Z' L' r w (F.trans f) (pn.trans q)
  | rt d ρ' => exact fun v σ' H' Z' L' fp r w h f q => p v σ' H' Z' L' fp r w h (F.trans f) (pn.trans q)
  | ex e ρ' => exact fun cls d σ' H' Z' L' r w x f q => p cls d σ' H' Z' L' r w x (F.trans f) (pn.trans q)
theorem post_es {σ : L2.St} {H : Hp} {Z : ZS} {L : FP} {T : Ends} {e : Exn} {ρ' : Env} (p : PostS K cA W k σ H Z L T (.ex e ρ')) :
    ∀ cls d H' Z' L', RelL K cA H' Z' ρ' σ L' → Wf H' Z' L' → ExR cA H' Z' e cls d → Fr H Z L H' Z' L' → W cls d σ H' := fun cls d H' Z' L' r w x f => p cls d σ H' Z' L' r w x f Pin.refl
end
def dNext : Env → Fl := fun ρ => .nx ρ
@[irreducible] def dSeq (f g : Env → Fl) : Env → Fl := fun ρ => match f ρ with
  | .nx ρ1 => g ρ1
  | o => o
def dBreak : Env → Fl := fun ρ => .bk ρ
def dCont : Env → Fl := fun ρ => .ct ρ
section
variable {X : Cx} {cA : Str → Addr} {W : WX} {k : Option Nat} {f g : Env → Fl} {st : Stmt} {rest : List Stmt} {pos : Pos}
theorem dss_nil : DSs X cA W k dNext [] := dss_of pss_nil fun D σ H Z L ρ r w p => p σ H Z L r w Fr.refl Pin.refl
theorem dss_one (h : DS X cA W k f st) : DSs X cA W k f [st] := pss_one h
theorem dss_cons (h : DS X cA W k f st) (h2 : DSs X cA W k g rest) : DSs X cA W k (dSeq f g) (st :: rest) := dss_of (pss_cons h h2) fun D σ H Z L ρ r w p => by
  refine ⟨Z, L, ρ, r, w, ?_⟩
  unfold dSeq at p
  cases hf : f ρ with
  | nx ρ1 =>
    rw [hf] at p
    exact fun σ1 H1 Z1 L1 r1 w1 F1 q1 => ⟨Z1, L1, ρ1, r1, w1, postS_tr F1 q1 p⟩
  | st => rw [hf] at p; exact p
  | bk ρ1 => rw [hf] at p; exact p
  | ct ρ1 => rw [hf] at p; exact p
  | rt d ρ1 => rw [hf] at p; exact p
  | ex e ρ1 => rw [hf] at p; exact p
end
def dBind (f : Env → Out D) (h : D → Env → Fl) : Env → Fl := fun ρ => match f ρ with
  | .ok d ρ1 => h d ρ1
  | .ex e ρ1 => .ex e ρ1
  | .st => .st
section
variable {X : Cx} {cA : Str → Addr} {W : WX} {k : Option Nat} {f : Env → Out D} {e : Expr} {pos : Pos} {te : TE}
theorem bind_te {K : PySem.W.Frag} {σ : L2.St} {H : Hp} {Z : ZS} {L : FP} {ρ : Env} {T : Ends} {h : D → Env → Fl} {Q : VK} (r : RelL K cA H Z ρ σ L) (w : Wf H Z L) (p : PostS K cA W k σ H Z L T (dBind f h ρ))
    (n : ∀ d ρ1 v H1 Z1 L1 fp, f ρ = .ok d ρ1 → RelL K cA H1 Z1 ρ1 σ L1 → Wf H1 Z1 (fp ++ L1) → RepD K cA H1 Z1 d v fp → Fr H Z L H1 Z1 (fp ++ L1) → PostS K cA W k σ H Z L T (h d ρ1) → Q v H1) : TEof K cA W f σ H Q := by
  refine ⟨Z, L, ρ, r, w, ?_⟩
  unfold dBind at p
  cases hf : f ρ with
  | st => rw [hf] at p; exact p
  | ex e ρ1 => rw [hf] at p; exact post_es p
  | ok d ρ1 =>
    rw [hf] at p
    exact fun v H1 Z1 L1 fp r1 w1 h1 F1 => n d ρ1 v H1 Z1 L1 fp hf r1 w1 h1 F1 p
theorem ds_ret (he : DE X cA W f e) : DS X cA W k (dBind f fun d ρ => .rt d ρ) (.Return (some e) pos) :=
  ds_of (ps_ret he) fun D σ H Z L ρ r w p => bind_te r w p fun d ρ1 v H1 Z1 L1 fp hd r1 w1 h1 F1 p => p v σ H1 Z1 L1 fp r1 w1 h1 F1 Pin.refl
def dRetMv (i : Nat) : Env → Fl := fun ρ => match ρ[i]? with
  | some (some d) => .rt d (ρ.set i none)
  | _ => .st
theorem ds_retMv {i : Nat} (he : PE X e (tVar i)) : DS X cA W k (dRetMv i) (.Return (some e) pos) := ds_of (ps_ret he) fun D σ H Z L ρ r w p => by
  unfold dRetMv at p
  split at p
  · rename_i d hd
    obtain ⟨v, f0, f1, f2, hv, hr, ef, _, cut⟩ := relL_at r hd
    have pm : L.Perm (f1 ++ (f0 ++ f2)) := by
      rw [ef, List.append_assoc]
      exact (List.perm_append_comm_assoc f0 f1 f2)
    exact ⟨v, hv, p v σ H Z (f0 ++ f2) f1 (cut (fun _ z => z) (fun _ _ _ e => e)) (w.perm pm) hr (Fr.refl.less fun x m => pm.mem_iff.mpr m) Pin.refl⟩
  · exact p.elim
def dIf (t : Env → Out Bool) (f g : Env → Fl) : Env → Fl := fun ρ => match t ρ with
  | .ok true ρ1 => f ρ1
  | .ok false ρ1 => g ρ1
  | .ex e ρ1 => .ex e ρ1
  | .st => .st
theorem ds_if {c : Expr} {a b : List Stmt} {t : Env → Out Bool} {ff gg : Env → Fl} (hc : DT X cA W t c) (ha : DSs X cA W k ff a) (hb : DSs X cA W k gg b) : DS X cA W k (dIf t ff gg) (.If c a b pos) := ds_of (ps_if hc ha hb) fun D σ H Z L ρ r w p => by
  refine ⟨Z, L, ρ, r, w, ?_⟩
  unfold dIf at p
  cases ht : t ρ with
  | st => rw [ht] at p; exact p
  | ex e ρ1 => rw [ht] at p; exact post_es p
  | ok b ρ1 =>
    rw [ht] at p
    intro H1 Z1 L1 r1 w1 F1
    cases b with
    | true => exact ⟨Z1, L1, ρ1, r1, w1, postS_tr F1 Pin.refl p⟩
    | false => exact ⟨Z1, L1, ρ1, r1, w1, postS_tr F1 Pin.refl p⟩
def dNo : Env → Fl := fun _ => .st
def stSet (i : Nat) (d : D) (ρ : Env) : Fl := if i < ρ.length then .nx (ρ.set i (some d)) else .st
theorem put_slot {K : PySem.W.Frag} {σ : L2.St} {H H1 : Hp} {Z Z1 : ZS} {L L1 fp : FP} {T : Ends} {ρ1 : Env} {i : Nat} {d : D} {v : V} (hk : k ≠ some i) (r1 : RelL K cA H1 Z1 ρ1 σ L1) (w1 : Wf H1 Z1 (fp ++ L1)) (h1 : RepD K cA H1 Z1 d v fp)
    (F1 : Fr H Z L H1 Z1 (fp ++ L1)) (p : PostS K cA W k σ H Z L T (stSet i d ρ1)) : T.nx (σ.set i (some v)) H1 := by
  unfold stSet at p
  split at p
  · rename_i hi
    obtain ⟨f0, f2, hs, q⟩ := relL_set r1 hi h1
    have pm : (fp ++ (f0 ++ f2)).Perm (f0 ++ fp ++ f2) := by
      rw [List.append_assoc]
      exact List.perm_append_comm_assoc fp f0 f2
    have w2 := (w1.less ((List.Sublist.refl fp).append hs)).perm pm
    exact p _ H1 Z1 _ q w2 (F1.less fun x m => by
      have := pm.mem_iff.mpr m
      rcases List.mem_append.mp this with z | z
      · simp [z]
      · simp [hs.subset z]) (Pin.set hk)
  · exact p.elim
theorem ds_set {i : Nat} {x : Str} {pos' : Pos} (hN : X.N.Nodup) (hi : X.N[i]? = some x) (hx : Loc X.env.scope x) (he : DE X cA W f e) (hk : k ≠ some i := by decide) (hs : swapsWith e (some (.Name x pos')) pos.line X.env = pure false := by kernel_rfl)
    (hf : X.fn x = true ∨ X.env.scope.names.lookup x = some .local := by first | exact .inl rfl | exact .inr rfl | assumption) : DS X cA W k (dBind f (stSet i)) (.Assign [.Name x pos'] e pos) :=
  ds_of (ps_set hN hi hx he hs hf) fun D σ H Z L ρ r w p => bind_te r w p fun d ρ1 v H1 Z1 L1 fp hd r1 w1 h1 F1 p => put_slot hk r1 w1 h1 F1 p
def But (ts : List Nat) (σ σ' : L2.St) : Prop := σ'.length = σ.length ∧ ∀ j, j ∉ ts → σ'[j]? = σ[j]?
theorem But.pin {ts : List Nat} {σ σ' : L2.St} (b : But ts σ σ') (h : ∀ i, k = some i → i ∉ ts) : Pin k σ σ' := fun i e => b.2 i (h i e)
theorem But.set {σ : L2.St} {i : Nat} {v : Option V} : But [i] σ (σ.set i v) := ⟨List.length_set .., fun j hj => by
  have : i ≠ j := fun z => hj (by simp [z])
  rw [List.getElem?_set_ne this]⟩
def TGof (K : PySem.W.Frag) (cA : Str → Addr) (ts : List Nat) (g : D → Env → Option Env) : TG := fun v σ H Q => ∃ d Z L ρ ρ', RelL K cA H Z ρ σ L ∧ Wf H Z L ∧ RepD K cA H Z d v [] ∧ g d ρ = some ρ' ∧
  ∀ σ' H' Z' L', RelL K cA H' Z' ρ' σ' L' → Wf H' Z' L' → Fr H Z L H' Z' L' → But ts σ σ' → Q σ' H'
def DG (X : Cx) (cA : Str → Addr) (ts : List Nat) (g : D → Env → Option Env) (tg : Expr) : Prop := PG X tg (TGof X.K cA ts g)
def tg1 (i : Nat) (d : D) (ρ : Env) : Option Env := if i < ρ.length then some (ρ.set i (some d)) else none
def tgL : List Nat → List D → Env → Option Env
  | [], [], ρ => some ρ
  | i :: is, d :: ds, ρ => if i < ρ.length then tgL is ds (ρ.set i (some d)) else none
  | _, _, _ => none
def tgT (is : List Nat) (d : D) (ρ : Env) : Option Env := match d with
  | .n .tup _ xs => tgL is xs ρ
  | _ => none
theorem PG.imp {tg : Expr} {t t' : TG} (h : PG X tg t) (i : ∀ v σ H Q, t' v σ H Q → t v σ H Q) : PG X tg t' := ⟨fun pins s σ H v u Q I r w => h.run pins s σ H v u Q I r (i v σ H Q w)⟩
theorem dg_name {i : Nat} {x : Str} (hN : X.N.Nodup) (hi : X.N[i]? = some x) (hx : Loc X.env.scope x) (hf : X.fn x = true ∨ X.env.scope.names.lookup x = some .local := by first | exact .inl rfl | exact .inr rfl | assumption) : DG X cA [i] (tg1 i) (.Name x pos) :=
  PG.imp (pg_name hN hi hx hf) fun v σ H Q ⟨d, Z, L, ρ, ρ', r, w, h, e, q⟩ => by
    unfold tg1 at e
    split at e
    · rename_i hl
      cases e
      obtain ⟨f0, f2, hs, q'⟩ := relL_set r hl h
      exact q _ H Z _ q' (w.less (by simpa using hs)) (Fr.refl.less fun x m => hs.subset (by simpa using m)) But.set
    · cases e
theorem tgL_len : ∀ {is : List Nat} {xs : List D} {ρ ρ' : Env}, tgL is xs ρ = some ρ' → xs.length = is.length
  | [], [], _, _, _ => rfl
  | [], a :: b, _, _, e => by simp [tgL] at e
  | i :: is, [], _, _, e => by simp [tgL] at e
  | i :: is, a :: b, ρ, ρ', e => by
    unfold tgL at e
    split at e
    · rw [List.length_cons, List.length_cons, tgL_len e]
    · cases e
theorem dFz_isF {f : Env → Out D} {ρ ρ1 : Env} {d : D} (h : dFz f ρ = .ok d ρ1) : isF d = true := by
  unfold dFz at h
  split at h
  · cases h
    exact isF_frz _
  · cases h
  · cases h
inductive DGs (X : Cx) : List Nat → List Expr → Prop where
  | nil : DGs X [] []
  | cons {i : Nat} {x : Str} {pos : Pos} {is : List Nat} {es : List Expr} (h : PG X (.Name x pos) (gName i)) (t : DGs X is es)
      (hs : (assignEach (.Name x pos :: es) X.env).map (·.2) = assign (.Name x pos) X.env :: (assignEach es X.env).map (·.2)) : DGs X (i :: is) (.Name x pos :: es)
def gNames : List Nat → TGs
  | [] => gNil
  | i :: is => gCons (gName i) (gNames is)
theorem DGs.pgs : ∀ {is : List Nat} {es : List Expr}, DGs X is es → PGs X es (gNames is)
  | _, _, .nil => pgs_nil
  | _, _, .cons h t hs => pgs_cons h t.pgs hs
theorem names_ok {K : PySem.W.Frag} {Q : L2.St → Hp → Prop} {H : Hp} {Z : ZS} : ∀ {is : List Nat} {ds : List D} {vs : List V} {ρ ρ' : Env} {σ : L2.St} {L : FP}, RelL K cA H Z ρ σ L → Wf H Z L → RepL K cA H Z ds vs [] → tgL is ds ρ = some ρ' →
    (∀ σ' L', RelL K cA H Z ρ' σ' L' → Wf H Z L' → Fr H Z L H Z L' → But is σ σ' → Q σ' H) → gNames is vs σ H Q
  | [], [], vs, ρ, ρ', σ, L, r, w, h, e, q => by
    cases e
    exact ⟨h.1, q σ L r w Fr.refl ⟨rfl, fun _ _ => rfl⟩⟩
  | [], d :: ds, vs, ρ, ρ', σ, L, r, w, h, e, q => by simp [tgL] at e
  | i :: is, [], vs, ρ, ρ', σ, L, r, w, h, e, q => by simp [tgL] at e
  | i :: is, d :: ds, vs, ρ, ρ', σ, L, r, w, h, e, q => by
    obtain ⟨v, vs', f1, f2, ev, h1, h2, ef⟩ := h
    have e2 := List.append_eq_nil_iff.mp ef.symm
    rw [e2.1] at h1
    rw [e2.2] at h2
    unfold tgL at e
    split at e
    · rename_i hl
      obtain ⟨f0, f3, hs, r'⟩ := relL_set r hl h1
      refine ⟨v, vs', ev, ?_⟩
      refine names_ok r' (w.less (by simpa using hs)) h2 e fun σ' L' r2 w2 F2 b2 => ?_
      refine q σ' L' r2 w2 ((Fr.refl.less fun x m => hs.subset (by simpa using m)).trans F2) ⟨by rw [b2.1, List.length_set], fun j hj => ?_⟩
      have hij : i ≠ j := fun z => hj (by simp [z])
      rw [b2.2 j fun m => hj (by simp [m]), List.getElem?_set_ne hij]
    · cases e
theorem dg_tup {is : List Nat} {es : List Expr} {x1 : Nat} {n : Nat} (hc : X.calm = true) (h : DGs X is es) (hl : is.length = n) (hn : (assignEach es X.env).length = n := by kernel_rfl) (hst : (assignEach es X.env).findIdx? (·.1) = none := by kernel_rfl) :
    DG X cA is (tgT is) (.Tuple es x1 pos) := PG.imp (pg_tup hc h.pgs hn hst) fun v σ H Q ⟨d, Z, L, ρ, ρ', r, w, hd, e, q⟩ => by
  unfold tgT at e
  split at e
  · rename_i o xs
    obtain ⟨p, vs, rfl, e1, r1, _⟩ := rep_tup hd
    have len : vs.length = n := by
      rw [repL_len r1, ← hl]
      exact tgL_len e
    exact ⟨p, vs, rfl, e1, len, names_ok r w r1 e fun σ' L' r2 w2 F2 b2 => q σ' H Z L' r2 w2 F2 b2⟩
  · cases e
def stTg (g : D → Env → Option Env) (d : D) (ρ : Env) : Fl := match g d ρ with
  | some ρ' => .nx ρ'
  | none => .st
theorem ds_asg {tg : Expr} {ts : List Nat} {g : D → Env → Option Env} (hg : DG X cA ts g tg) (he : DE X cA W (dFz f) e) (hk : ∀ i, k = some i → i ∉ ts) (hs : swapsWithSole [tg] e pos.line X.env = pure false := by kernel_rfl) (hw : swappedStores [tg] e X.env = pure none := by kernel_rfl)
    (h1 : (assignEach [tg] X.env).map (·.2) = [assign tg X.env] := by kernel_rfl) : DS X cA W k (dBind (dFz f) (stTg g)) (.Assign [tg] e pos) :=
  ds_of (ps_asg he hg hs hw h1) fun T σ H Z L ρ r w p => bind_te r w p fun d ρ1 v H1 Z1 L1 fp hd r1 w1 h1 F1 p => by
    unfold stTg at p
    split at p
    · rename_i ρ' hg'
      have ef := repD_isF d h1 (dFz_isF hd)
      subst ef
      exact ⟨d, Z1, L1, ρ1, ρ', r1, w1, h1, hg', fun σ' H' Z' L' r' w' F' b => p σ' H' Z' L' r' w' (F1.trans F') (b.pin hk)⟩
    · exact p.elim
def dPar (i j : Nat) (g : Env → Out (List Ag)) : Env → Fl := fun ρ => match g ρ with
  | .ok [.d a, .d b] ρ1 => if i < ρ1.length ∧ j < ρ1.length then .nx ((ρ1.set i (some a)).set j (some b)) else .st
  | .ok _ _ => .st
  | .ex e ρ1 => .ex e ρ1
  | .st => .st
def dAug (i : Nat) (h : Int → Int → Int) (f : Env → Out D) : Env → Fl := fun ρ => match ρ[i]? with
  | some (some (.a (.int a))) => (match f ρ with
    | .ok (.a (.int b)) ρ1 => stSet i (.int (h a b)) ρ1
    | .ok _ _ => .st
    | .ex e ρ1 => .ex e ρ1
    | .st => .st)
  | _ => .st
end
end DL
namespace DL
open PySem L2
section
variable {K : PySem.W.Frag} {cA : Str → Addr} {H : Hp} {Z : ZS}
theorem set_same {σ : L2.St} {i : Nat} {v : V} (h : σ[i]? = some (some v)) : σ.set i (some v) = σ := by
  apply List.ext_getElem?
  intro j
  by_cases hj : i = j
  · subst hj
    rw [h, List.getElem?_set_self (List.getElem?_eq_some_iff.mp h).1]
  · rw [List.getElem?_set_ne hj]
theorem own_write {ρ : Env} {σ : L2.St} {L hd : FP} {i : Nat} {p : Addr} {ys : List D} {vs ws : List V} {f0 g f2 g2 : FP} {Z0 : ZS} {H0 : Hp} {L0 : FP}
    (w : Wf H Z (hd ++ L)) (r : RelL K cA H Z ρ σ L) (hp : H p = some (.lst vs)) (eL : L = f0 ++ (p :: g) ++ f2) (hσ : σ[i]? = some (some (.ref p)))
    (put : ∀ {H' : Hp} {Z' : ZS} {d' : D} {v' : V} {g' : FP}, (∀ a, Z a → Z' a) → (∀ a o, (Z a ∨ a ∈ f0 ∨ a ∈ f2) → H a = some o → H' a = some o) → RepD K cA H' Z' d' v' g' → RelL K cA H' Z' (ρ.set i (some d')) (σ.set i (some v')) (f0 ++ g' ++ f2))
    (ry : RepL K cA H Z ys ws g2) (sub : ∀ a ∈ g2, a ∈ g ∨ a ∈ hd) (nd2 : g2.Nodup) (F : Fr H0 Z0 L0 H Z (hd ++ L)) :
    RelL K cA (upd H p (.lst ws)) Z (ρ.set i (some (.lst true ys))) σ (f0 ++ (p :: g2) ++ f2) ∧ Wf (upd H p (.lst ws)) Z (f0 ++ (p :: g2) ++ f2) ∧ Fr H0 Z0 L0 (upd H p (.lst ws)) Z (f0 ++ (p :: g2) ++ f2) := by
  subst eL
  have nd := List.nodup_append.mp w.nd
  have ndL := List.nodup_append.mp nd.2.1
  have ndL1 := List.nodup_append.mp ndL.1
  have ndp := List.nodup_cons.mp ndL1.2.1
  have pz : ¬ Z p := w.dj p (by simp)
  have pf0 : p ∉ f0 := fun m => ndL1.2.2 p m p (by simp) rfl
  have pf2 : p ∉ f2 := fun m => ndL.2.2 p (by simp) p m rfl
  have phd : p ∉ hd := fun m => nd.2.2 p m p (by simp) rfl
  have pg2 : p ∉ g2 := fun m => (sub p m).elim ndp.1 phd
  have kn : ∀ a o, a ≠ p → H a = some o → upd H p (.lst ws) a = some o := fun a o n e => by rw [upd_ne n]; exact e
  have rep' : RepD K cA (upd H p (.lst ws)) Z (.lst true ys) (.ref p) (p :: g2) := ⟨p, ws, g2, rfl, repL_mono ys (fun _ z => z) (fun a o m e => kn a o (fun q => by
    subst q
    exact m.elim pz pg2) e) ry, ⟨upd_same, fun q => nomatch q⟩, rfl, fun q => nomatch q⟩
  have q := put (H' := upd H p (.lst ws)) (Z' := Z) (fun _ z => z) (fun a o m e => kn a o (fun q => by
    subst q
    rcases m with m | m | m
    · exact pz m
    · exact pf0 m
    · exact pf2 m) e) rep'
  rw [set_same hσ] at q
  have inall : ∀ a ∈ f0 ++ (p :: g2) ++ f2, a ∈ hd ++ (f0 ++ (p :: g) ++ f2) := fun a m => by
    simp only [List.mem_append, List.mem_cons] at m ⊢
    rcases m with (m | m | m) | m
    · simp [m]
    · simp [m]
    · rcases sub a m with z | z <;> simp [z]
    · simp [m]
  refine ⟨q, ⟨?_, fun a m => w.dj a (inall a m), fun a z => ?_⟩, ⟨fun a o e n => ?_, F.zm, F.zs, fun a m => F.ls a (inall a m)⟩⟩
  · refine List.nodup_append.mpr ⟨List.nodup_append.mpr ⟨ndL1.1, List.nodup_cons.mpr ⟨pg2, nd2⟩, fun a ha b hb e => ?_⟩, ndL.2.1, fun a ha b hb e => ?_⟩
    · subst e
      rcases List.mem_cons.mp hb with rfl | hb
      · exact pf0 ha
      · rcases sub a hb with z | z
        · exact ndL1.2.2 a ha a (by simp [z]) rfl
        · exact nd.2.2 a z a (by simp [ha]) rfl
    · subst e
      rcases List.mem_append.mp ha with ha | ha
      · exact ndL.2.2 a (by simp [ha]) a hb rfl
      · rcases List.mem_cons.mp ha with rfl | ha
        · exact pf2 hb
        · rcases sub a ha with z | z
          · exact ndL.2.2 a (by simp [z]) a hb rfl
          · exact nd.2.2 a z a (by simp [hb]) rfl
  · obtain ⟨o, e⟩ := w.tz a z
    by_cases h : a = p
    · subst h; exact absurd z pz
    · exact ⟨o, kn a o h e⟩
  · have h1 := F.keep a o e n
    by_cases h : a = p
    · subst h
      rcases F.ls a (by simp) with z | z
      · exact absurd z n
      · rw [z] at e; cases e
    · exact kn a o h h1
theorem relL_own {ρ : Env} {σ : L2.St} {L : FP} {i : Nat} {xs : List D} (r : RelL K cA H Z ρ σ L) (h : ρ[i]? = some (some (.lst true xs))) : ∃ p vs g f0 f2, σ[i]? = some (some (.ref p)) ∧ H p = some (.lst vs) ∧ RepL K cA H Z xs vs g ∧ L = f0 ++ (p :: g) ++ f2 ∧
    (∀ {H' : Hp} {Z' : ZS} {d' : D} {v' : V} {g' : FP}, (∀ a, Z a → Z' a) → (∀ a o, (Z a ∨ a ∈ f0 ∨ a ∈ f2) → H a = some o → H' a = some o) → RepD K cA H' Z' d' v' g' → RelL K cA H' Z' (ρ.set i (some d')) (σ.set i (some v')) (f0 ++ g' ++ f2)) := by
  obtain ⟨v, f0, f1, f2, hv, hr, ef, put, _⟩ := relL_at r h
  obtain ⟨p, vs, g, rfl, e1, r1, e2, _⟩ := rep_lst hr
  rw [if_pos rfl] at e2
  subst e2
  exact ⟨p, vs, g, f0, f2, hv, e1, r1, ef, put⟩
theorem repL_set' {xs : List D} {vs : List V} {g : FP} (h : RepL K cA H Z xs vs g) : ∀ {j : Nat} {d : D} {v : V} {f : FP}, j < xs.length → RepD K cA H Z d v f → ∃ g0 g2, (g0 ++ g2).Sublist g ∧ RepL K cA H Z (xs.set j d) (vs.set j v) (g0 ++ f ++ g2) := by
  induction xs generalizing vs g with
  | nil => intro j d v f hj; simp at hj
  | cons x xs ih =>
    intro j d v f hj hd
    obtain ⟨u, vs', f1, f2, ev, h1, h2, ef⟩ := h
    subst ev ef
    cases j with
    | zero => exact ⟨[], f2, by simp, v, vs', f, f2, rfl, hd, h2, by simp⟩
    | succ j =>
      obtain ⟨g0, g2, hs, q⟩ := ih h2 (by simpa using hj) hd
      refine ⟨f1 ++ g0, g2, by rw [List.append_assoc]; exact (List.Sublist.refl f1).append hs, u, vs'.set j v, f1, g0 ++ f ++ g2, rfl, h1, q, by simp⟩
theorem repL_erase {xs : List D} {vs : List V} {g : FP} (h : RepL K cA H Z xs vs g) : ∀ {j : Nat} {d : D}, xs[j]? = some d → ∃ v g0 f g2, vs[j]? = some v ∧ RepD K cA H Z d v f ∧ g = g0 ++ f ++ g2 ∧ RepL K cA H Z (xs.eraseIdx j) (vs.eraseIdx j) (g0 ++ g2) := by
  induction xs generalizing vs g with
  | nil => intro j d e; simp at e
  | cons x xs ih =>
    intro j d e
    obtain ⟨u, vs', f1, f2, ev, h1, h2, ef⟩ := h
    subst ev ef
    cases j with
    | zero =>
      simp at e; subst e
      exact ⟨u, [], f1, f2, rfl, h1, by simp, by simpa using h2⟩
    | succ j =>
      obtain ⟨v, g0, f, g2, hv, hr, eg, hx⟩ := ih h2 (by simpa using e)
      exact ⟨v, f1 ++ g0, f, g2, by simpa using hv, hr, by rw [eg]; simp, u, _, f1, g0 ++ g2, rfl, h1, hx, by simp⟩
end
def stApp (i : Nat) (d : D) (ρ : Env) : Fl := match ρ[i]? with
  | some (some (.n .lst true xs)) => if xs.length < cap then .nx (ρ.set i (some (.lst true (xs ++ [d])))) else .st
  | _ => .st
def stExt (i : Nat) (d : D) (ρ : Env) : Fl := match ρ[i]? with
  | some (some (.n .lst true xs)) => (match d with
    | .n .lst _ ys => if xs.length + ys.length ≤ cap ∧ isFL ys = true then .nx (ρ.set i (some (.lst true (xs ++ ys)))) else .st
    | _ => .st)
  | _ => .st
def dHas (i : Nat) (f : Env → Fl) : Env → Fl := fun ρ => match ρ[i]? with
  | some (some (.n .lst _ _)) => f ρ
  | _ => .st
section
variable {X : Cx} {cA : Str → Addr} {W : WX} {k : Option Nat} {f : Env → Out D} {e o : Expr} {pos apos cpos : Pos}
theorem ds_append {i : Nat} (ho : PE X o (tVar i)) (he : DE X cA W f e)
    (hbase : attributeBase o "append" X.env (eval o X.env) = eval o X.env := by kernel_rfl)
    (hfew : ((backTo cpos (starEach [e] X.env)).all (fun x => !x.1) && (backToKw cpos (keywordEach [] X.env)).all (fun x => x.1.isSome)
      && decide ([e].length + ([] : List Keyword).length + (if ([] : List Keyword).isEmpty then 0 else 1) < 30)) = true := by kernel_rfl)
    (hline : (apos.endLine == cpos.line) = true := by kernel_rfl) (hs : starEach [e] X.env = (false, eval e X.env) :: starEach [] X.env := by kernel_rfl)
    (hsw : swapsWith (.Call (.Attribute o "append" apos) [e] [] cpos) none pos.line X.env = pure false := by kernel_rfl) : DS X cA W k (dHas i (dBind f (stApp i))) (.Expr (.Call (.Attribute o "append" apos) [e] [] cpos) pos) :=
  ds_of (ps_expr (pe_bm PySem.F.plainAttrs_list PySem.F.slot_list_append PySem.F.type_list_append mt_append ho (pa_cons he pa_nil hs) hbase hfew hline hs rfl) hsw) fun T σ H Z L ρ r w p => by
    unfold dHas at p
    split at p
    · rename_i oo zs hz
      obtain ⟨v, f0, f1, f2, hv, hr, ef, _, _⟩ := relL_at r hz
      obtain ⟨p0, vs0, g0, rfl, e0, _, _, _⟩ := rep_lst hr
      refine ⟨_, hv, .inl ⟨rfl, _, SqL.of e0⟩, bind_te r w p fun d ρ1 u H1 Z1 L1 fp hd r1 w1 h1 F1 p => ?_⟩
      unfold stApp at p
      split at p
      · rename_i xs hx
        split at p
        · rename_i hl
          obtain ⟨q, vs, g, f0, f2, hσ, hp, rx, eL, put⟩ := relL_own r1 hx
          rw [hv] at hσ
          cases hσ
          have len := repL_len rx
          have ra := repL_append rx (repL_one h1)
          have nd := List.nodup_append.mp w1.nd
          show rAppend (.ref p0) [u] H1 (fun x H1 => T.nx σ H1)
          refine ⟨p0, vs, u, rfl, rfl, hp, cap_lt (by omega), ?_⟩
          have nd2 : (g ++ fp).Nodup := by
            rw [eL] at nd
            refine List.nodup_append.mpr ⟨(List.nodup_cons.mp (List.nodup_append.mp (List.nodup_append.mp nd.2.1).1).2.1).2, nd.1, fun a ha b hb e => ?_⟩
            subst e
            exact nd.2.2 a hb a (by simp [ha]) rfl
          obtain ⟨a, b, c⟩ := own_write w1 r1 hp eL hv put ra (fun a m => List.mem_append.mp m) nd2 F1
          exact p σ _ Z1 _ a b c Pin.refl
        · exact p.elim
      · exact p.elim
    · exact p.elim
def stSub (i : Nat) (fj : Env → Out D) (d : D) (ρ : Env) : Fl := match ρ[i]? with
  | some (some (.n .lst true _)) => (match fj ρ with
    | .ok (.a (.int z)) ρ2 => (match ρ2[i]? with
      | some (some (.n .lst true xs)) => (match ixN xs.length z with
        | some j => .nx (ρ2.set i (some (.lst true (xs.set j d))))
        | none => .st)
      | _ => .st)
    | .ok _ _ => .st
    | .ex e ρ2 => .ex e ρ2
    | .st => .st)
  | _ => .st
theorem ixN_lt {n : Nat} {z : Int} {j : Nat} (h : ixN n z = some j) : j < n := by
  obtain ⟨_, h2, _⟩ := ixN_seq h
  exact h2
theorem ds_sub {i : Nat} {ix : Expr} {fj : Env → Out D} {spos : Pos} (he : DE X cA W f e) (ho : PE X o (tVar i)) (hi : DE X cA W fj ix)
    (hs : swapsWithSole [.Subscript o ix spos] e pos.line X.env = pure false := by kernel_rfl) (hw : swappedStores [.Subscript o ix spos] e X.env = pure none := by kernel_rfl)
    (h1 : (assignEach [.Subscript o ix spos] X.env).map (·.2) = [assign (.Subscript o ix spos) X.env] := by kernel_rfl)
    (ha : ∀ v, assign (.Subscript o ix spos) X.env v = (do
      let ov ← holding [v] (eval o X.env)
      let iv ← holding [v, ov] (eval ix X.env)
      standAt spos
      holding [v, ov, iv] (setItem ov iv v)
      release [v, ov, iv] []) := by intro _; kernel_rfl) : DS X cA W k (dBind f (stSub i fj)) (.Assign [.Subscript o ix spos] e pos) :=
  ds_of (ps_asg he (pg_sub ho hi set_list ha) hs hw h1) fun T σ H Z L ρ r w p => bind_te r w p fun d ρ1 v H1 Z1 L1 fp hd r1 w1 h1 F1 p => by
    unfold stSub at p
    split at p
    · rename_i xs0 hx0
      obtain ⟨q, _, _, _, _, hσ, _, _, _, _⟩ := relL_own r1 hx0
      refine ⟨_, hσ, Z1, L1, ρ1, r1, w1.less (List.sublist_append_right _ _), ?_⟩
      cases hj : fj ρ1 with
      | st => rw [hj] at p; exact p
      | ex e ρ2 =>
        rw [hj] at p
        exact exw (post_es p) (F1.less fun x m => by simp [m])
      | ok d2 ρ2 =>
        rw [hj] at p
        intro u H2 Z2 L2 fp2 r2 w2 h2 F2
        have w12 : Wf H2 Z2 (fp ++ (fp2 ++ L2)) := w1.wait (repD_trk d h1) (repD_nt d h1) F2 w2
        have F12 := Fr.wait w1 F1 F2
        have hv2 := repD_wait w1 h1 F2
        cases d2 with
        | n k o xs => exact p.elim
        | a x =>
          cases x with
          | non => exact p.elim
          | bl b => exact p.elim
          | str s => exact p.elim
          | int z =>
            obtain ⟨e1, e2⟩ := h2
            subst e1 e2
            dsimp only at p
            split at p
            · rename_i xs hx
              split at p
              · rename_i j hj2
                obtain ⟨q2, vs, g, f0, f2, hσ2, hp, rx, eL, put⟩ := relL_own r2 hx
                rw [hσ] at hσ2
                cases hσ2
                have len := repL_len rx
                obtain ⟨g0, g2, hsb, rs⟩ := repL_set' rx (ixN_lt hj2) hv2
                refine ⟨q, vs, z, j, rfl, rfl, hp, by rw [len]; exact hj2, ?_⟩
                have nd := List.nodup_append.mp w12.nd
                have ndg : g.Nodup := by
                  have nl : L2.Nodup := by simpa using nd.2.1
                  rw [eL] at nl
                  exact (List.nodup_cons.mp (List.nodup_append.mp (List.nodup_append.mp nl).1).2.1).2
                have nd2 : (g0 ++ fp ++ g2).Nodup := by
                  have pm : (fp ++ (g0 ++ g2)).Perm (g0 ++ fp ++ g2) := by
                    rw [List.append_assoc]; exact List.perm_append_comm_assoc fp g0 g2
                  refine pm.nodup_iff.mp (List.nodup_append.mpr ⟨nd.1, ndg.sublist hsb, fun a ha b hb e => ?_⟩)
                  subst e
                  exact nd.2.2 a ha a (by rw [eL]; simp [hsb.subset hb]) rfl
                obtain ⟨a, b, c⟩ := own_write w12 r2 hp eL hσ put rs (fun a m => by
                  simp only [List.mem_append] at m
                  rcases m with (m | m) | m
                  · exact .inl (hsb.subset (by simp [m]))
                  · exact .inr m
                  · exact .inl (hsb.subset (by simp [m]))) nd2 F12
                exact p σ _ Z2 _ a b c Pin.refl
              · exact p.elim
            · exact p.elim
    · exact p.elim
def stSub2 (i : Nat) (qa qb : Env → Option At) (d : D) (ρ : Env) : Fl := match ρ[i]? with
  | some (some (.n .lst true xs)) => (match qa ρ, qb ρ with
    | some (.int a), some (.int b) => (match ixN xs.length a with
      | some j => (match xs[j]? with
        | some (.n .lst true ys) => (match ixN ys.length b with
          | some l => if isF d = true then .nx (ρ.set i (some (.lst true (xs.set j (.lst true (ys.set l d)))))) else .st
          | none => .st)
        | _ => .st)
      | none => .st)
    | _, _ => .st)
  | _ => .st
end
end DL
namespace DL
open PySem L2
def ItOf (K : PySem.W.Frag) (cA : Str → Addr) (J : It) (ds : List D) (H0 : Hp) (Z0 : ZS) : Prop :=
  ∀ i H Z1, (∀ a, Z0 a → Z1 a) → (∀ a o, Z0 a → H0 a = some o → H a = some o) → Wf H Z1 [] →
    (∀ d, ds[i]? = some d → J.go i H ∧ ∀ x H', J.yld i H x H' → ∃ Z2, Fr H Z1 [] H' Z2 [] ∧ Wf H' Z2 [] ∧ RepD K cA H' Z2 d x []) ∧ (ds.length ≤ i → J.stop i H)
section
variable (K : PySem.W.Frag) (cA : Str → Addr)
def PostI (W : WX) (σ : L2.St) (H : Hp) (Z : ZS) (L : FP) (R : It → Hp → Prop) : Out (List D) → Prop
  | .ok ds ρ' => ∀ J H' Z' L', RelL K cA H' Z' ρ' σ L' → Wf H' Z' L' → Fr H Z L H' Z' L' → ItOf K cA J ds H' Z' → R J H'
  | .ex e ρ' => ∀ cls d H' Z' L', RelL K cA H' Z' ρ' σ L' → Wf H' Z' L' → ExR cA H' Z' e cls d → Fr H Z L H' Z' L' → W cls d σ H'
  | .st => False
def TIof (W : WX) (f : Env → Out (List D)) : TI := fun σ H R => ∃ Z L ρ, RelL K cA H Z ρ σ L ∧ Wf H Z L ∧ PostI K cA W σ H Z L R (f ρ)
end
def DI (X : Cx) (cA : Str → Addr) (W : WX) (f : Env → Out (List D)) (tg iter : Expr) : Prop := PI X tg iter (TIof X.K cA W f)
theorem PI.imp {X : Cx} {tg iter : Expr} {t t' : TI} (h : PI X tg iter t) (i : ∀ σ H R, t' σ H R → t σ H R) : PI X tg iter t' := ⟨fun pins s σ H R I w => h.run pins s σ H R I (i σ H R w)⟩
theorem pi_or {X : Cx} {tg iter : Expr} {t t' : TI} (h : PI X tg iter t) (h' : PI X tg iter t') : PI X tg iter (fun σ H R => t σ H R ∨ t' σ H R) := ⟨fun pins s σ H R I w => by
  rcases w with w | w
  · exact h.run pins s σ H R I w
  · exact h'.run pins s σ H R I w⟩
section
variable {K : PySem.W.Frag} {cA : Str → Addr}
theorem rd_keep {H H' : Hp} {Z : ZS} {p : Addr} {u : HO} (z : Z p) (k : ∀ a o, Z a → H a = some o → H' a = some o) (r : Rd H p u) : Rd H' p u := rd_mono (fun o e => k p o z e) r
theorem it_list {H0 : Hp} {Z0 : ZS} {p : Addr} {vs : List V} {xs : List D} (z : Z0 p) (e : H0 p = some (.lst vs)) (r : RepL K cA H0 Z0 xs vs []) : ItOf K cA (Itl K p) xs H0 Z0 := by
  intro i H Z1 hz hk w
  have e1 := hk p _ z e
  have r1 : RepL K cA H Z1 xs vs [] := repL_mono xs hz (fun a o m e => by
    rcases m with m | m
    · exact hk a o m e
    · cases m) r
  refine ⟨fun d hd => ?_, fun hl => ⟨vs, SqL.of e1, by rw [repL_len r]; exact hl⟩⟩
  obtain ⟨v, f0, f1, f2, hv, hr, ef⟩ := repL_get r1 hd
  have e2 : f1 = [] := by
    have := congrArg List.length ef
    simp at this
    exact List.eq_nil_of_length_eq_zero (by omega)
  subst e2
  refine ⟨⟨vs, v, SqL.of e1, hv⟩, fun x H' y => ?_⟩
  obtain ⟨e3, y⟩ := y
  subst e3
  have := y vs (SqL.of e1)
  rw [hv] at this
  cases this
  exact ⟨Z1, Fr.refl, w, hr⟩
theorem it_tup {H0 : Hp} {Z0 : ZS} {p : Addr} {vs : List V} {xs : List D} (c : TupK K H0 Z0 p vs) (r : RepL K cA H0 Z0 xs vs []) : ItOf K cA (Itt K p) xs H0 Z0 := by
  intro i H Z1 hz hk w
  have e1 : SqT K H p vs := by
    rcases c with ⟨z, ob, q, _⟩ | q
    · exact .inl (rd_keep z hk (.inr ⟨ob, q⟩))
    · exact kt_sq q
  have r1 : RepL K cA H Z1 xs vs [] := repL_mono xs hz (fun a o m e => by
    rcases m with m | m
    · exact hk a o m e
    · cases m) r
  refine ⟨fun d hd => ?_, fun hl => ⟨vs, e1, by rw [repL_len r]; exact hl⟩⟩
  obtain ⟨v, f0, f1, f2, hv, hr, ef⟩ := repL_get r1 hd
  have e2 : f1 = [] := by
    have := congrArg List.length ef
    simp at this
    exact List.eq_nil_of_length_eq_zero (by omega)
  subst e2
  refine ⟨⟨vs, v, e1, hv⟩, fun x H' y => ?_⟩
  obtain ⟨e3, y⟩ := y
  subst e3
  have := y vs e1
  rw [hv] at this
  cases this
  exact ⟨Z1, Fr.refl, w, hr⟩
def intL (lo : Int) (n : Nat) : List D := (List.range n).map fun (i : Nat) => D.int (lo + (i : Int))
theorem intL_len (lo : Int) (n : Nat) : (intL lo n).length = n := by simp [intL]
theorem it_rng {H0 : Hp} {Z0 : ZS} {lo : Int} {n : Nat} : ItOf K cA (Itr lo n) (intL lo n) H0 Z0 := by
  intro i H Z1 hz hk w
  refine ⟨fun d hd => ?_, fun hl => by rw [intL_len] at hl; exact hl⟩
  have hi : i < n := by
    have := (List.getElem?_eq_some_iff.mp hd).1
    rw [intL_len] at this; exact this
  refine ⟨hi, fun x H' y => ?_⟩
  obtain ⟨e1, e2⟩ := y
  subst e1 e2
  have : d = .int (lo + i) := by
    simp [intL, hi] at hd
    exact hd.symm
  subst this
  exact ⟨Z1, Fr.refl, w, rfl, rfl⟩
def intsC (lo c : Int) (n : Nat) : List D := (List.range n).map fun (i : Nat) => D.int (lo + (i : Int) * c)
def signs (s : Str) : List D := s.cps.toList.map fun c => .str ⟨#[c]⟩
theorem it_str {H0 : Hp} {Z0 : ZS} {s : Str} : ItOf K cA (Its s) (signs s) H0 Z0 := by
  intro i H Z1 hz hk w
  refine ⟨fun d hd => ?_, fun hl => by
    have : s.cps.size ≤ i := by simpa [signs] using hl
    exact this⟩
  have hd' : (s.cps.toList[i]?).map (fun c => D.str ⟨#[c]⟩) = some d := by rw [← hd]; simp [signs]
  cases hc : s.cps.toList[i]? with
  | none => rw [hc] at hd'; cases hd'
  | some c =>
    rw [hc] at hd'
    cases hd'
    have hc' : s.cps[i]? = some c := by simpa using hc
    refine ⟨(Array.getElem?_eq_some_iff.mp hc').1, fun x H' y => ?_⟩
    obtain ⟨e1, c', e2, e3⟩ := y
    subst e1
    rw [hc'] at e2
    cases e2
    subst e3
    exact ⟨Z1, Fr.refl, w, rfl, rfl⟩
end
def itemsOf : D → Option (List D)
  | .n .lst _ xs => if xs.length ≤ cap then some xs else none
  | .n .tup _ xs => if xs.length ≤ cap then some xs else none
  | .a (.str s) => if s.length ≤ cap then some (signs s) else none
  | _ => none
def dIter (f : Env → Out D) : Env → Out (List D) := fun ρ => match f ρ with
  | .ok d ρ1 => (match itemsOf d with
    | some xs => if isF d = true then .ok xs ρ1 else .st
    | none => .st)
  | .ex e ρ1 => .ex e ρ1
  | .st => .st
def dRng1 (f : Env → Out D) : Env → Out (List D) := fun ρ => match f ρ with
  | .ok (.a (.int j)) ρ1 => if -1000000 ≤ j ∧ j ≤ 1000000 then .ok (intL 0 j.toNat) ρ1 else .st
  | .ok _ _ => .st
  | .ex e ρ1 => .ex e ρ1
  | .st => .st
def dRng2 (f g : Env → Out D) : Env → Out (List D) := fun ρ => match f ρ with
  | .ok (.a (.int i)) ρ1 => (match g ρ1 with
    | .ok (.a (.int j)) ρ2 => if (-1000000 ≤ i ∧ i ≤ 1000000) ∧ -1000000 ≤ j ∧ j ≤ 1000000 then .ok (intL i (j - i).toNat) ρ2 else .st
    | .ok _ _ => .st
    | .ex e ρ2 => .ex e ρ2
    | .st => .st)
  | .ok _ _ => .st
  | .ex e ρ1 => .ex e ρ1
  | .st => .st
section
variable {X : Cx} {cA : Str → Addr} {W : WX} {f g : Env → Out D} {e e2 tg : Expr} {p pos : Pos}
theorem di_of (he : DE X cA W f e) : DI X cA W (dIter f) tg e :=
  PI.imp (pi_or (pi_list he) (pi_or (pi_tup he) (pi_str he))) fun σ H R ⟨Z, L, ρ, r, w, q⟩ => by
    unfold dIter at q
    cases hf : f ρ with
    | st => rw [hf] at q; exact q.elim
    | ex e ρ1 =>
      rw [hf] at q
      exact .inl ⟨Z, L, ρ, r, w, by rw [hf]; exact q⟩
    | ok d ρ1 =>
      rw [hf] at q
      dsimp only at q
      split at q
      · rename_i xs hx
        split at q
        · rename_i hF
          unfold itemsOf at hx
          split at hx
          · rename_i o ys
            split at hx
            · cases hx
              refine .inl ⟨Z, L, ρ, r, w, ?_⟩
              rw [hf]
              intro v H1 Z1 L1 fp r1 w1 h1 F1
              have efp := repD_isF _ h1 hF
              subst efp
              have ho : o = false := by
                have : (!o && isFL xs) = true := hF
                simp at this; exact this.1
              subst ho
              obtain ⟨q0, vs, g, rfl, e1, rr, _, zz⟩ := rep_lst h1
              obtain ⟨z1, z2⟩ := zz rfl
              subst z2
              exact ⟨q0, rfl, ⟨vs, SqL.of e1⟩, q _ H1 Z1 L1 r1 w1 F1 (it_list z1 e1 rr)⟩
            · cases hx
          · rename_i o ys
            split at hx
            · cases hx
              refine .inr (.inl ⟨Z, L, ρ, r, w, ?_⟩)
              rw [hf]
              intro v H1 Z1 L1 fp r1 w1 h1 F1
              obtain ⟨q0, vs, rfl, e1, rr, rfl, _, cc⟩ := rep_tup h1
              exact ⟨q0, rfl, ⟨vs, e1⟩, q _ H1 Z1 L1 r1 w1 F1 (it_tup cc rr)⟩
            · cases hx
          · rename_i s
            split at hx
            · cases hx
              refine .inr (.inr ⟨Z, L, ρ, r, w, ?_⟩)
              rw [hf]
              intro v H1 Z1 L1 fp r1 w1 h1 F1
              obtain ⟨e1, e2⟩ := h1
              subst e1 e2
              exact ⟨s, rfl, q _ H1 Z1 L1 r1 w1 F1 it_str⟩
            · cases hx
          · cases hx
        · exact q.elim
      · exact q.elim
theorem post_int {K : PySem.W.Frag} {σ : L2.St} {H : Hp} {Z : ZS} {L : FP} {ρ : Env} {Q : VK} (r : RelL K cA H Z ρ σ L) (w : Wf H Z L)
    (h : match f ρ with
      | .ok (.a (.int i)) ρ1 => ∀ H1 Z1 L1, RelL K cA H1 Z1 ρ1 σ L1 → Wf H1 Z1 L1 → Fr H Z L H1 Z1 L1 → Q (.int i) H1
      | .ok _ _ => False
      | .ex e ρ1 => ∀ cls d H' Z' L', RelL K cA H' Z' ρ1 σ L' → Wf H' Z' L' → ExR cA H' Z' e cls d → Fr H Z L H' Z' L' → W cls d σ H'
      | .st => False) : TEof K cA W f σ H Q := by
  refine ⟨Z, L, ρ, r, w, ?_⟩
  cases hf : f ρ with
  | st => rw [hf] at h; exact h
  | ex e ρ1 => rw [hf] at h; exact h
  | ok d ρ1 =>
    rw [hf] at h
    intro v H1 Z1 L1 fp r1 w1 h1 F1
    cases d with
    | n k o xs => exact h.elim
    | a x =>
      cases x with
      | non => exact h.elim
      | bl b => exact h.elim
      | str s => exact h.elim
      | int i =>
        obtain ⟨e1, e2⟩ := h1
        subst e1 e2
        exact h H1 Z1 L1 r1 w1 F1
theorem di_rng1 (hg : Gl X "range") (hm : X.mg "range" = none) (he : DE X cA W f e) (hs : starEach [e] X.env = [(false, eval e X.env)] := by kernel_rfl) : DI X cA W (dRng1 f) tg (.Call (.Name "range" p) [e] [] pos) :=
  PI.imp (pi_range1 hg hm (pa_cons he pa_nil hs) hs) fun σ H R ⟨Z, L, ρ, r, w, q⟩ => by
    refine post_int r w ?_
    unfold dRng1 at q
    cases hf : f ρ with
    | st => rw [hf] at q; exact q
    | ex e ρ1 => rw [hf] at q; exact q
    | ok d ρ1 =>
      rw [hf] at q
      cases d with
      | n k o xs => exact q.elim
      | a x =>
        cases x with
        | non => exact q.elim
        | bl b => exact q.elim
        | str s => exact q.elim
        | int i =>
          dsimp only at q
          split at q
          · rename_i hi
            intro H1 Z1 L1 r1 w1 F1
            exact ⟨i, rfl, by omega, by omega, q _ H1 Z1 L1 r1 w1 F1 it_rng⟩
          · exact q.elim
theorem di_rng2 (hg : Gl X "range") (hm : X.mg "range" = none) (he : DE X cA W f e) (he2 : DE X cA W g e2) (hs : starEach [e, e2] X.env = [(false, eval e X.env), (false, eval e2 X.env)] := by kernel_rfl) (hs2 : starEach [e2] X.env = [(false, eval e2 X.env)] := by kernel_rfl) :
    DI X cA W (dRng2 f g) tg (.Call (.Name "range" p) [e, e2] [] pos) :=
  PI.imp (pi_range2 hg hm (pa_cons he (pa_cons he2 pa_nil hs2) (by rw [hs, hs2])) hs hs2) fun σ H R ⟨Z, L, ρ, r, w, q⟩ => by
    refine post_int r w ?_
    unfold dRng2 at q
    cases hf : f ρ with
    | st => rw [hf] at q; exact q
    | ex e ρ1 => rw [hf] at q; exact q
    | ok d ρ1 =>
      rw [hf] at q
      cases d with
      | n k o xs => exact q.elim
      | a x =>
        cases x with
        | non => exact q.elim
        | bl b => exact q.elim
        | str s => exact q.elim
        | int i =>
          dsimp only at q
          intro H1 Z1 L1 r1 w1 F1
          refine post_int r1 w1 ?_
          cases hg : g ρ1 with
          | st => rw [hg] at q; exact q
          | ex e ρ2 => rw [hg] at q; exact exw q F1
          | ok d ρ2 =>
            rw [hg] at q
            cases d with
            | n k o xs => exact q.elim
            | a x =>
              cases x with
              | non => exact q.elim
              | bl b => exact q.elim
              | str s => exact q.elim
              | int j =>
                dsimp only at q
                split at q
                · rename_i hi
                  intro H2 Z2 L2 r2 w2 F2
                  exact ⟨i, j, rfl, ⟨by omega, by omega, by omega, by omega⟩, q _ H2 Z2 L2 r2 w2 (F1.trans F2) it_rng⟩
                · exact q.elim
end
def forL (g : D → Env → Option Env) (b : Env → Fl) : List D → Env → Fl
  | [], ρ => .nx ρ
  | d :: ds, ρ => match g d ρ with
    | none => .st
    | some ρ1 => match b ρ1 with
      | .nx ρ2 => forL g b ds ρ2
      | .ct ρ2 => forL g b ds ρ2
      | .bk ρ2 => .nx ρ2
      | .rt d ρ2 => .rt d ρ2
      | .ex e ρ2 => .ex e ρ2
      | .st => .st
def dFor (src : Env → Out (List D)) (g : D → Env → Option Env) (b : Env → Fl) : Env → Fl := fun ρ => match src ρ with
  | .ok ds ρ1 => forL g b ds ρ1
  | .ex e ρ1 => .ex e ρ1
  | .st => .st
theorem drop_cons' {α : Type} {l : List α} {i : Nat} {d : α} (h : l[i]? = some d) : l.drop i = d :: l.drop (i + 1) := by
  obtain ⟨h1, h2⟩ := List.getElem?_eq_some_iff.mp h
  rw [List.drop_eq_getElem_cons h1, h2]
section
variable {X : Cx} {cA : Str → Addr} {W : WX} {k : Option Nat} {src : Env → Out (List D)} {ts : List Nat} {g : D → Env → Option Env} {b : Env → Fl} {iter tg : Expr} {body : List Stmt} {pos : Pos}
theorem it_turn {K : PySem.W.Frag} {J : It} {ds : List D} {H0 H : Hp} {Z0 Z : ZS} {L0 L : FP} {ρ : Env} {σ : L2.St} (hi : ItOf K cA J ds H0 Z0) (w0 : Wf H0 Z0 L0) (F : Fr H0 Z0 L0 H Z L) (r : RelL K cA H Z ρ σ L) (w : Wf H Z L) (i : Nat) :
    (∀ d, ds[i]? = some d → J.go i H ∧ ∀ x H', J.yld i H x H' → ∃ Z2, RelL K cA H' Z2 ρ σ L ∧ Wf H' Z2 L ∧ Fr H Z L H' Z2 L ∧ RepD K cA H' Z2 d x []) ∧ (ds.length ≤ i → J.stop i H) := by
  obtain ⟨a, b⟩ := hi i H Z F.zm (fun a o z e => F.keep a o e fun m => w0.dj a m z) (wf0 w)
  refine ⟨fun d hd => ⟨(a d hd).1, fun x H' y => ?_⟩, b⟩
  obtain ⟨Z2, F2, w2, h2⟩ := (a d hd).2 x H' y
  obtain ⟨r3, w3, F3⟩ := hand0 w r F2 w2
  exact ⟨Z2, r3, w3, F3, h2⟩
theorem ds_for (hp : PassesOwn (model X.prog X.w) X.A X.env X.xe) (hc : X.calm = true) (hi : DI X cA W src tg iter) (hg : DG X cA ts g tg) (hb : DSs X cA W k b body) (hk : ∀ i, k = some i → i ∉ ts)
    (hs : ∀ x, foldedSetIterable iter X.env x = pure x := by intro _; kernel_rfl) : DS X cA W k (dFor src g b) (.For tg iter body [] pos) := ds_of (L2.ps_for hp hc hi hg hb hs) fun T σ H Z L ρ r w p => by
  refine ⟨Z, L, ρ, r, w, ?_⟩
  unfold dFor at p
  cases hsrc : src ρ with
  | st => rw [hsrc] at p; exact p
  | ex e ρ1 => rw [hsrc] at p; exact post_es p
  | ok ds ρ1 =>
    rw [hsrc] at p
    intro J H1 Z1 L1 r1 w1 F1 hit
    refine ⟨fun i m σi Hi => m = ds.length - i ∧ i ≤ ds.length ∧ ∃ Zi Li ρi, RelL X.K cA Hi Zi ρi σi Li ∧ Wf Hi Zi Li ∧ Fr H1 Z1 L1 Hi Zi Li ∧ Pin k σ σi ∧ PostS X.K cA W k σ H Z L T (forL g b (ds.drop i) ρi), ⟨_, rfl, Nat.zero_le _, Z1, L1, ρ1, r1, w1, Fr.refl, Pin.refl, p⟩, ?_⟩
    rintro i m σi Hi ⟨rfl, hil, Zi, Li, ρi, ri, wi, Fi, pi, qi⟩
    obtain ⟨tn, stp⟩ := it_turn hit w1 Fi ri wi i
    cases hd : ds[i]? with
    | none =>
      left
      have hl : ds.length ≤ i := List.getElem?_eq_none_iff.mp hd
      refine ⟨stp hl, ?_⟩
      rw [List.drop_eq_nil_of_le hl] at qi
      exact qi σi Hi Zi Li ri wi (F1.trans Fi) pi
    | some d =>
      right
      obtain ⟨go, yl⟩ := tn d hd
      have hlt : i < ds.length := (List.getElem?_eq_some_iff.mp hd).1
      rw [drop_cons' hd] at qi
      unfold forL at qi
      refine ⟨go, fun σ' H' => ∃ Z' L' ρ', RelL X.K cA H' Z' ρ' σ' L' ∧ Wf H' Z' L' ∧ Fr H1 Z1 L1 H' Z' L' ∧ Pin k σ σ' ∧ PostS X.K cA W k σ H Z L T (forL g b (ds.drop (i + 1)) ρ'), ?_, fun x H' y => ?_⟩
      · rintro σ' H' ⟨Z', L', ρ', a1, a2, a3, a4, a5⟩
        exact ⟨ds.length - (i + 1), by omega, rfl, hlt, Z', L', ρ', a1, a2, a3, a4, a5⟩
      · obtain ⟨Z2, r2, w2, F2, h2⟩ := yl x H' y
        cases hgd : g d ρi with
        | none => rw [hgd] at qi; exact qi.elim
        | some ρa =>
          rw [hgd] at qi
          refine ⟨d, Z2, Li, ρi, ρa, r2, w2, h2, hgd, fun σa Ha Za La ra wa Fa ba => ?_⟩
          have FA : Fr H1 Z1 L1 Ha Za La := (Fi.trans F2).trans Fa
          have pA : Pin k σ σa := pi.trans (ba.pin hk)
          refine ⟨Za, La, ρa, ra, wa, ?_⟩
          dsimp only at qi
          cases hbo : b ρa with
          | st => rw [hbo] at qi; exact qi
          | nx ρ2 => rw [hbo] at qi; exact fun σ' H' Z' L' a1 a2 a3 a4 => ⟨Z', L', ρ2, a1, a2, FA.trans a3, pA.trans a4, qi⟩
          | ct ρ2 => rw [hbo] at qi; exact fun σ' H' Z' L' a1 a2 a3 a4 => ⟨Z', L', ρ2, a1, a2, FA.trans a3, pA.trans a4, qi⟩
          | bk ρ2 => rw [hbo] at qi; exact fun σ' H' Z' L' a1 a2 a3 a4 => qi σ' H' Z' L' a1 a2 ((F1.trans FA).trans a3) (pA.trans a4)
          | rt d ρ2 => rw [hbo] at qi; exact fun v σ' H' Z' L' fp a1 a2 a3 a4 a5 => qi v σ' H' Z' L' fp a1 a2 a3 ((F1.trans FA).trans a4) (pA.trans a5)
          | ex e ρ2 => rw [hbo] at qi; exact fun cls d σ' H' Z' L' a1 a2 a3 a4 a5 => qi cls d σ' H' Z' L' a1 a2 a3 ((F1.trans FA).trans a4) (pA.trans a5)
end
def whL (t : Env → Out Bool) (b : Env → Fl) : Nat → Env → Fl
  | 0, _ => .st
  | m + 1, ρ => match t ρ with
    | .ok false ρ1 => .nx ρ1
    | .ok true ρ1 => (match b ρ1 with
      | .nx ρ2 => whL t b m ρ2
      | .ct ρ2 => whL t b m ρ2
      | .bk ρ2 => .nx ρ2
      | .rt d ρ2 => .rt d ρ2
      | .ex e ρ2 => .ex e ρ2
      | .st => .st)
    | .ex e ρ1 => .ex e ρ1
    | .st => .st
section
variable {X : Cx} {cA : Str → Addr} {W : WX} {k : Option Nat} {t : Env → Out Bool} {b : Env → Fl} {c : Expr} {body : List Stmt} {pos : Pos}
theorem ds_while (m0 : Nat) (hp : PassesOwn (model X.prog X.w) X.A X.env X.xe) (hc : DT X cA W t c) (hb : DSs X cA W k b body) : DS X cA W k (whL t b m0) (.While c body [] pos) := ds_of (L2.ps_while hp hc hb) fun T σ H Z L ρ r w p => by
  refine ⟨fun m σi Hi => ∃ Zi Li ρi, RelL X.K cA Hi Zi ρi σi Li ∧ Wf Hi Zi Li ∧ Fr H Z L Hi Zi Li ∧ Pin k σ σi ∧ PostS X.K cA W k σ H Z L T (whL t b m ρi), ⟨m0, Z, L, ρ, r, w, Fr.refl, Pin.refl, p⟩, ?_⟩
  rintro m σi Hi ⟨Zi, Li, ρi, ri, wi, Fi, pi, qi⟩
  cases m with
  | zero => exact qi.elim
  | succ m =>
    unfold whL at qi
    refine ⟨Zi, Li, ρi, ri, wi, ?_⟩
    cases ht : t ρi with
    | st => rw [ht] at qi; exact qi
    | ex e ρ1 => rw [ht] at qi; exact fun cls d H' Z' L' a1 a2 a3 a4 => qi cls d σi H' Z' L' a1 a2 a3 (Fi.trans a4) pi
    | ok v ρ1 =>
      rw [ht] at qi
      intro Ha Za La ra wa Fa
      have FA := Fi.trans Fa
      cases v with
      | false => exact qi σi Ha Za La ra wa FA pi
      | true =>
        rw [if_pos rfl]
        refine ⟨fun σ' H' => ∃ Z' L' ρ', RelL X.K cA H' Z' ρ' σ' L' ∧ Wf H' Z' L' ∧ Fr H Z L H' Z' L' ∧ Pin k σ σ' ∧ PostS X.K cA W k σ H Z L T (whL t b m ρ'), fun σ' H' q => ⟨m, Nat.lt_succ_self _, q⟩, Za, La, ρ1, ra, wa, ?_⟩
        dsimp only at qi
        cases hbo : b ρ1 with
        | st => rw [hbo] at qi; exact qi
        | nx ρ2 => rw [hbo] at qi; exact fun σ' H' Z' L' a1 a2 a3 a4 => ⟨Z', L', ρ2, a1, a2, FA.trans a3, pi.trans a4, qi⟩
        | ct ρ2 => rw [hbo] at qi; exact fun σ' H' Z' L' a1 a2 a3 a4 => ⟨Z', L', ρ2, a1, a2, FA.trans a3, pi.trans a4, qi⟩
        | bk ρ2 => rw [hbo] at qi; exact fun σ' H' Z' L' a1 a2 a3 a4 => qi σ' H' Z' L' a1 a2 (FA.trans a3) (pi.trans a4)
        | rt d ρ2 => rw [hbo] at qi; exact fun v σ' H' Z' L' fp a1 a2 a3 a4 a5 => qi v σ' H' Z' L' fp a1 a2 a3 (FA.trans a4) (pi.trans a5)
        | ex e ρ2 => rw [hbo] at qi; exact fun cls d σ' H' Z' L' a1 a2 a3 a4 a5 => qi cls d σ' H' Z' L' a1 a2 a3 (FA.trans a4) (pi.trans a5)
end
end DL
namespace DL
open PySem L2
def wipeE (ρ : Env) : List Nat → Env
  | [] => ρ
  | v :: vs => (wipeE ρ vs).set v none
def backE (ρ1 : Env) : List Nat → Env → Env
  | [], ρ => ρ
  | v :: vs, ρ => match ρ1[v]? with
    | some (some d) => if isF d = true ∧ v < (backE ρ1 vs ρ).length then (backE ρ1 vs ρ).set v (some d) else backE ρ1 vs ρ
    | _ => backE ρ1 vs ρ
section
variable {K : PySem.W.Frag} {cA : Str → Addr} {H : Hp} {Z : ZS}
theorem relL_cong : ∀ {ρ : Env} {σ σ' : L2.St} {L : FP}, RelL K cA H Z ρ σ L → σ'.length = σ.length → (∀ (i : Nat) (d : D), ρ[i]? = some (some d) → σ'[i]? = σ[i]?) → RelL K cA H Z ρ σ' L
  | [], σ, σ', L, h, hl, _ => by
    have e := h.1
    subst e
    have : σ' = [] := List.eq_nil_of_length_eq_zero (by simpa using hl)
    subst this
    exact h
  | none :: ρ, σ, σ', L, h, hl, hs => by
    obtain ⟨x, σ1, e, r⟩ := h
    subst e
    cases σ' with
    | nil => simp at hl
    | cons y σ2 => exact ⟨y, σ2, rfl, relL_cong r (by simpa using hl) fun i d e => by simpa using hs (i + 1) d (by simpa using e)⟩
  | some d :: ρ, σ, σ', L, h, hl, hs => by
    obtain ⟨v, σ1, f1, f2, e, h1, h2, ef⟩ := h
    subst e
    cases σ' with
    | nil => simp at hl
    | cons y σ2 =>
      have h0 := hs 0 d rfl
      simp at h0
      subst h0
      exact ⟨v, σ2, f1, f2, rfl, h1, relL_cong h2 (by simpa using hl) fun i d e => by simpa using hs (i + 1) d (by simpa using e), ef⟩
theorem relL_none : ∀ {ρ : Env} {σ : L2.St} {L : FP} (i : Nat), RelL K cA H Z ρ σ L → ∃ L', L'.Sublist L ∧ RelL K cA H Z (ρ.set i none) σ L'
  | [], σ, L, i, h => ⟨L, List.Sublist.refl _, by simpa using h⟩
  | none :: ρ, σ, L, 0, h => ⟨L, List.Sublist.refl _, h⟩
  | some d :: ρ, σ, L, 0, h => by
    obtain ⟨v, σ1, f1, f2, e, h1, h2, ef⟩ := h
    subst ef
    exact ⟨f2, List.sublist_append_right _ _, some v, σ1, e, h2⟩
  | none :: ρ, σ, L, i + 1, h => by
    obtain ⟨x, σ1, e, r⟩ := h
    obtain ⟨L', hs, q⟩ := relL_none i r
    exact ⟨L', hs, x, σ1, e, q⟩
  | some d :: ρ, σ, L, i + 1, h => by
    obtain ⟨v, σ1, f1, f2, e, h1, h2, ef⟩ := h
    subst ef
    obtain ⟨L', hs, q⟩ := relL_none i h2
    exact ⟨f1 ++ L', (List.Sublist.refl f1).append hs, v, σ1, f1, L', e, h1, q, rfl⟩
theorem wipeE_len (ρ : Env) : ∀ vs, (wipeE ρ vs).length = ρ.length
  | [] => rfl
  | v :: vs => by unfold wipeE; rw [List.length_set, wipeE_len ρ vs]
theorem wipeE_some {ρ : Env} {i : Nat} {d : D} : ∀ {vs : List Nat}, (wipeE ρ vs)[i]? = some (some d) → i ∉ vs ∧ ρ[i]? = some (some d)
  | [], h => ⟨by simp, h⟩
  | v :: vs, h => by
    unfold wipeE at h
    by_cases e : v = i
    · subst e
      by_cases hl : v < (wipeE ρ vs).length
      · rw [List.getElem?_set_self hl] at h; cases h
      · rw [List.getElem?_eq_none (by rw [List.length_set]; omega)] at h; cases h
    · rw [List.getElem?_set_ne e] at h
      obtain ⟨h1, h2⟩ := wipeE_some h
      exact ⟨by simp only [List.mem_cons, not_or]; exact ⟨fun z => e z.symm, h1⟩, h2⟩
theorem relL_wipe {ρ : Env} {σ : L2.St} {L : FP} (h : RelL K cA H Z ρ σ L) (vs : List Nat) : ∃ L', L'.Sublist L ∧ RelL K cA H Z (wipeE ρ vs) (wipe σ vs) L' := by
  have key : ∀ vs, ∃ L', L'.Sublist L ∧ RelL K cA H Z (wipeE ρ vs) σ L' := by
    intro vs
    induction vs with
    | nil => exact ⟨L, List.Sublist.refl _, h⟩
    | cons v vs ih =>
      obtain ⟨L1, s1, r1⟩ := ih
      obtain ⟨L2, s2, r2⟩ := relL_none v r1
      exact ⟨L2, s2.trans s1, r2⟩
  obtain ⟨L', hs, r⟩ := key vs
  refine ⟨L', hs, relL_cong r (wipe_length σ vs) fun i d e => ?_⟩
  exact wipe_out (wipeE_some e).1
theorem relL_back {H1 : Hp} {Z1 : ZS} {ρ1 ρ : Env} {σ : L2.St} {L1 L : FP} (r1 : RelL K cA H1 Z1 ρ1 σ L1) (hz : ∀ a, Z1 a → Z a) (hk : ∀ a o, Z1 a → H1 a = some o → H a = some o) : ∀ vs : List Nat, RelL K cA H Z (wipeE ρ vs) (wipe σ vs) L →
    ∃ L', L'.Sublist L ∧ RelL K cA H Z (backE ρ1 vs (wipeE ρ vs)) σ L' := by
  intro vs h
  have h0 : RelL K cA H Z (wipeE ρ vs) σ L := relL_cong h (wipe_length σ vs).symm fun i d e => (wipe_out (wipeE_some e).1).symm
  generalize wipeE ρ vs = ρw at h0
  clear h
  induction vs with
  | nil => exact ⟨L, List.Sublist.refl _, h0⟩
  | cons v vs ih =>
    obtain ⟨L', hs, r⟩ := ih
    unfold backE
    split
    · rename_i d hd
      split
      · rename_i hc
        obtain ⟨u, f0, f1, f2, hu, hr, ef, _, _⟩ := relL_at r1 hd
        have e := repD_isF d hr hc.1
        subst e
        have hr' : RepD K cA H Z d u [] := repD_mono d hz (fun a o m e => by
          rcases m with m | m
          · exact hk a o m e
          · cases m) hr
        obtain ⟨g0, g2, hs2, q⟩ := relL_set r hc.2 hr'
        rw [set_same hu] at q
        exact ⟨_, (by simpa using hs2 : (g0 ++ [] ++ g2).Sublist L').trans hs, q⟩
      · exact ⟨L', hs, r⟩
    · exact ⟨L', hs, r⟩
theorem wipe_but {σ σ2 : L2.St} {ts : List Nat} : ∀ {vs : List Nat}, (∀ i ∈ ts, i ∈ vs) → But ts (wipe σ vs) σ2 → wipe σ2 vs = wipe σ vs := by
  intro vs hsub b
  have wl : ∀ (τ : L2.St) (vs : List Nat) (i : Nat), i ∈ vs → i < τ.length → (wipe τ vs)[i]? = some none := by
    intro τ vs
    induction vs with
    | nil => intro i h; cases h
    | cons v vs ih =>
      intro i h hl
      unfold wipe
      by_cases e : v = i
      · subst e
        rw [List.getElem?_set_self (by rw [wipe_length]; exact hl)]
      · rw [List.getElem?_set_ne e]
        rcases List.mem_cons.mp h with z | z
        · exact absurd z.symm e
        · exact ih i z hl
  have len : σ2.length = σ.length := by rw [b.1, wipe_length]
  apply List.ext_getElem?
  intro i
  by_cases hi : i ∈ vs
  · by_cases hl : i < σ.length
    · rw [wl σ2 vs i hi (by omega), wl σ vs i hi hl]
    · rw [List.getElem?_eq_none (by rw [wipe_length]; omega), List.getElem?_eq_none (by rw [wipe_length]; omega)]
  · rw [wipe_out hi, b.2 i (fun m => hi (hsub i m)), wipe_out hi]
end
def lcL (vs : List Nat) (g : D → Env → Option Env) (t : Env → Out Bool) (f : Env → Out D) : List D → Env → Out (List D)
  | [], ρ => .ok [] ρ
  | d :: ds, ρ => match g d ρ with
    | none => .st
    | some ρ1 => match t ρ1 with
      | .ok true ρ2 => (match f ρ2 with
        | .ok y ρ3 => (match lcL vs g t f ds (wipeE ρ3 vs) with
          | .ok ys ρ4 => .ok (y :: ys) ρ4
          | _ => .st)
        | _ => .st)
      | .ok false ρ2 => lcL vs g t f ds (wipeE ρ2 vs)
      | _ => .st
def dLc (vs : List Nat) (src : Env → Out (List D)) (g : D → Env → Option Env) (t : Env → Out Bool) (f : Env → Out D) : Env → Out D := fun ρ => match src ρ with
  | .ok ds ρ1 => if ds.length ≤ cap then (match lcL vs g t f ds (wipeE ρ1 vs) with
    | .ok ys ρ2 => .ok (.lst true ys) (backE ρ1 vs (wipeE ρ2 vs))
    | _ => .st) else .st
  | .ex e ρ1 => .ex e ρ1
  | .st => .st
abbrev WN : WX := fun _ _ _ _ => False
def DTs (X : Cx) (cA : Str → Addr) (W : WX) (f : Env → Out Bool) (es : List Expr) : Prop := PTs X es (TTof X.K cA W f)
def dYes : Env → Out Bool := fun ρ => .ok true ρ
theorem PTs.imp {X : Cx} {es : List Expr} {t t' : TT} (h : PTs X es t) (i : ∀ σ H Q, t' σ H Q → t σ H Q) : PTs X es t' := ⟨fun pins s σ H Q I w => h.run pins s σ H Q I (i σ H Q w)⟩
theorem dts_nil {X : Cx} {cA : Str → Addr} {W : WX} : DTs X cA W dYes [] := PTs.imp pts_nil fun σ H Q ⟨Z, L, ρ, r, w, p⟩ => p H Z L r w Fr.refl
theorem dts_one {X : Cx} {cA : Str → Addr} {W : WX} {t : Env → Out Bool} {c : Expr} (h : DT X cA W t c) : DTs X cA W t [c] := pts_one h
section
variable {X : Cx} {cA : Str → Addr} {W : WX} {src : Env → Out (List D)} {ts : List Nat} {g : D → Env → Option Env} {t : Env → Out Bool} {f : Env → Out D} {iter tg elt : Expr} {ifs : List Expr} {scope : Scope} {own : List (Str × Nat)} {pos : Pos}
theorem acc_put {K : PySem.W.Frag} {H : Hp} {Z : ZS} {q : Addr} {acc : List D} {vacc : List V} {gacc fp L : FP} {y : D} {v : V} (w : Wf H Z ((q :: gacc) ++ (fp ++ L))) (hq : H q = some (.lst vacc)) (ra : RepL K cA H Z acc vacc gacc) (ry : RepD K cA H Z y v fp)
    {ρ : Env} {σ : L2.St} (r : RelL K cA H Z ρ σ L) {H0 : Hp} {Z0 : ZS} {L0 : FP} (F : Fr H0 Z0 L0 H Z ((q :: gacc) ++ (fp ++ L))) :
    RepL K cA (upd H q (.lst (vacc ++ [v]))) Z (acc ++ [y]) (vacc ++ [v]) (gacc ++ fp) ∧ RelL K cA (upd H q (.lst (vacc ++ [v]))) Z ρ σ L ∧ Wf (upd H q (.lst (vacc ++ [v]))) Z ((q :: (gacc ++ fp)) ++ L) ∧ Fr H0 Z0 L0 (upd H q (.lst (vacc ++ [v]))) Z ((q :: (gacc ++ fp)) ++ L) := by
  have nd := List.nodup_append.mp w.nd
  have nq := List.nodup_cons.mp nd.1
  have qz : ¬ Z q := w.dj q (by simp)
  have qfp : q ∉ fp := fun m => nd.2.2 q (by simp) q (by simp [m]) rfl
  have qL : q ∉ L := fun m => nd.2.2 q (by simp) q (by simp [m]) rfl
  have kn : ∀ a o, a ≠ q → H a = some o → upd H q (.lst (vacc ++ [v])) a = some o := fun a o n e => by rw [upd_ne n]; exact e
  have e1 : (q :: gacc) ++ (fp ++ L) = (q :: (gacc ++ fp)) ++ L := by simp
  rw [e1] at w F
  refine ⟨repL_mono _ (fun _ z => z) (fun a o m e => kn a o (fun z => by
    subst z
    rcases m with m | m
    · exact qz m
    · rcases List.mem_append.mp m with m | m
      · exact nq.1 m
      · exact qfp m) e) (repL_append ra (repL_one ry)), relL_mono (fun _ z => z) (fun a o m e => kn a o (fun z => by
    subst z
    rcases m with m | m
    · exact qz m
    · exact qL m) e) r, ⟨w.nd, w.dj, fun a z => ?_⟩, ⟨fun a o e n => ?_, F.zm, F.zs, F.ls⟩⟩
  · obtain ⟨o, e⟩ := w.tz a z
    by_cases h : a = q
    · subst h; exact absurd z qz
    · exact ⟨o, kn a o h e⟩
  · have e2 := F.keep a o e n
    by_cases h : a = q
    · subst h
      rcases F.ls a (by simp) with z | z
      · exact absurd z n
      · rw [z] at e; cases e
    · exact kn a o h e2
theorem te_lc {K : PySem.W.Frag} (hsub : ∀ i ∈ ts, i ∈ own.map (·.2)) : ∀ σ H Q, TEof K cA W (dLc (own.map (·.2)) src g t f) σ H Q →
    tLc (TIof K cA W src) (TGof K cA ts g) (TTof K cA WN t) (TEof K cA WN f) (own.map (·.2)) σ H Q := by
  generalize hvs : own.map (·.2) = vs at hsub ⊢
  rintro σ H Q ⟨Z, L, ρ, r, w, p⟩
  refine ⟨Z, L, ρ, r, w, ?_⟩
  unfold dLc at p
  cases hsrc : src ρ with
  | st => rw [hsrc] at p; exact p
  | ex e ρ1 => rw [hsrc] at p; exact p
  | ok ds ρ1 =>
    rw [hsrc] at p
    dsimp only at p
    split at p
    case isFalse => exact p.elim
    rename_i hcap
    intro J H1 Z1 L1 r1 w1 F1 hit q hq
    obtain ⟨Lw, sw, rw'⟩ := relL_wipe r1 vs
    have kn := keep_new (o := .lst []) hq
    -- where the turns stand
    refine ⟨fun i m Hi => m = ds.length - i ∧ i ≤ ds.length ∧ ∃ Zi Li ρi acc vacc gacc, RelL K cA Hi Zi ρi (wipe σ vs) Li ∧ Wf Hi Zi ((q :: gacc) ++ Li) ∧ Hi q = some (.lst vacc) ∧ RepL K cA Hi Zi acc vacc gacc ∧ acc.length ≤ i ∧ Fr H1 Z1 L1 Hi Zi ((q :: gacc) ++ Li) ∧ ρi = wipeE ρi vs ∧
      (match lcL vs g t f (ds.drop i) ρi with
        | .ok ys ρ2 => PostE K cA W σ H Z L Q (.ok (.lst true (acc ++ ys)) (backE ρ1 vs (wipeE ρ2 vs)))
        | _ => False), ⟨_, rfl, Nat.zero_le _, Z1, Lw, wipeE ρ1 vs, [], [], [], ?_, ?_, upd_same, ⟨rfl, rfl⟩, Nat.le_refl _, ?_, ?_, ?_⟩, ?_⟩
    · exact relL_mono (fun _ z => z) (fun a o _ e => kn a o e) rw'
    · exact wf_new (w1.less sw) hq (fun a m => relL_trk rw' a m)
    · exact (fr_new hq).less fun x m => by
        rcases List.mem_cons.mp m with z | z
        · simp [z]
        · simp [sw.subset (by simpa using z)]
    · -- wiped twice
      have key : ∀ (vs : List Nat) (ρ : Env), (∀ i ∈ vs, i < ρ.length → ρ[i]? = some none) → wipeE ρ vs = ρ := by
        intro vs
        induction vs with
        | nil => intro ρ _; rfl
        | cons v vs ih =>
          intro ρ h
          unfold wipeE
          rw [ih ρ fun i m => h i (by simp [m])]
          apply List.ext_getElem?
          intro j
          by_cases e : v = j
          · subst e
            by_cases hl : v < ρ.length
            · rw [List.getElem?_set_self hl, h v (by simp) hl]
            · rw [List.getElem?_eq_none (by rw [List.length_set]; omega), List.getElem?_eq_none (by omega)]
          · rw [List.getElem?_set_ne e]
      refine (key vs (wipeE ρ1 vs) fun i m hl => ?_).symm
      cases hx : (wipeE ρ1 vs)[i]? with
      | none =>
        have := List.getElem?_eq_none_iff.mp hx
        omega
      | some o =>
        cases o with
        | none => rfl
        | some d => exact absurd m (wipeE_some hx).1
    · rw [List.drop_zero]
      cases hl : lcL vs g t f ds (wipeE ρ1 vs) with
      | ok ys ρ2 => rw [hl] at p; exact p
      | ex e ρ2 => rw [hl] at p; exact p
      | st => rw [hl] at p; exact p
    rintro i m Hi ⟨rfl, hil, Zi, Li, ρi, acc, vacc, gacc, ri, wi, hqi, ra, hacc, Fi, hwi, qi⟩
    have wiL : Wf Hi Zi Li := wi.less (List.sublist_append_right _ _)
    -- the list waits
    have rq : RepD K cA Hi Zi (.lst true acc) (.ref q) (q :: gacc) := ⟨q, vacc, gacc, rfl, ra, ⟨hqi, fun z => nomatch z⟩, rfl, fun z => nomatch z⟩
    have FiL : Fr H1 Z1 L1 Hi Zi Li := Fi.less fun x m => by simp [m]
    obtain ⟨tn, stp⟩ := it_turn hit w1 FiL ri wiL i
    cases hd : ds[i]? with
    | none =>
      left
      have hl : ds.length ≤ i := List.getElem?_eq_none_iff.mp hd
      refine ⟨stp hl, ?_⟩
      rw [List.drop_eq_nil_of_le hl] at qi
      have qi : PostE K cA W σ H Z L Q (.ok (.lst true (acc ++ [])) (backE ρ1 vs (wipeE ρi vs))) := qi
      rw [List.append_nil] at qi
      have ri' := ri
      rw [hwi] at ri'
      obtain ⟨L', hs', rb⟩ := relL_back r1 Fi.zm (fun a o z e => Fi.keep a o e fun m => w1.dj a m z) vs ri'
      have hsub2 : ((q :: gacc) ++ L').Sublist ((q :: gacc) ++ Li) := (List.Sublist.refl _).append hs'
      exact qi (.ref q) Hi Zi L' (q :: gacc) rb (wi.less hsub2) rq (F1.trans (Fi.less fun x m => hsub2.subset m))
    | some d =>
      right
      obtain ⟨go, yl⟩ := tn d hd
      have hlt : i < ds.length := (List.getElem?_eq_some_iff.mp hd).1
      rw [drop_cons' hd] at qi
      unfold lcL at qi
      refine ⟨go, fun H' => ∃ Z' L' ρ' acc' vacc' gacc', RelL K cA H' Z' ρ' (wipe σ vs) L' ∧ Wf H' Z' ((q :: gacc') ++ L') ∧ H' q = some (.lst vacc') ∧ RepL K cA H' Z' acc' vacc' gacc' ∧ acc'.length ≤ i + 1 ∧ Fr H1 Z1 L1 H' Z' ((q :: gacc') ++ L') ∧ ρ' = wipeE ρ' vs ∧
        (match lcL vs g t f (ds.drop (i + 1)) ρ' with
          | .ok ys ρ2 => PostE K cA W σ H Z L Q (.ok (.lst true (acc' ++ ys)) (backE ρ1 vs (wipeE ρ2 vs)))
          | _ => False), ?_, fun x H' y => ?_⟩
      · rintro H' ⟨Z', L', ρ', acc', vacc', gacc', a1, a2, a3, a4, a5, a6, a7, a8⟩
        exact ⟨ds.length - (i + 1), by omega, rfl, hlt, Z', L', ρ', acc', vacc', gacc', a1, a2, a3, a4, a5, a6, a7, a8⟩
      · obtain ⟨Z2, r2, w2, F2, h2⟩ := yl x H' y
        cases hgd : g d ρi with
        | none => rw [hgd] at qi; exact qi.elim
        | some ρa =>
          rw [hgd] at qi
          refine ⟨d, Z2, Li, ρi, ρa, r2, w2, h2, hgd, fun σa Ha Za La ra' wa Fa ba => ?_⟩
          have hwσ := wipe_but hsub ba
          refine ⟨hwσ, ?_⟩
          have FA : Fr Hi Zi Li Ha Za La := F2.trans Fa
          refine ⟨Za, La, ρa, ra', wa, ?_⟩
          dsimp only at qi
          have idem : ∀ ρ : Env, wipeE ρ vs = wipeE (wipeE ρ vs) vs := by
            intro ρ
            have key : ∀ (us : List Nat) (ρ : Env), (∀ i ∈ us, i < ρ.length → ρ[i]? = some none) → wipeE ρ us = ρ := by
              intro us
              induction us with
              | nil => intro ρ _; rfl
              | cons v us ih =>
                intro ρ h
                unfold wipeE
                rw [ih ρ fun i m => h i (by simp [m])]
                apply List.ext_getElem?
                intro j
                by_cases e : v = j
                · subst e
                  by_cases hl : v < ρ.length
                  · rw [List.getElem?_set_self hl, h v (by simp) hl]
                  · rw [List.getElem?_eq_none (by rw [List.length_set]; omega), List.getElem?_eq_none (by omega)]
                · rw [List.getElem?_set_ne e]
            refine (key vs (wipeE ρ vs) fun i m hl => ?_).symm
            cases hx : (wipeE ρ vs)[i]? with
            | none =>
              have := List.getElem?_eq_none_iff.mp hx
              omega
            | some o =>
              cases o with
              | none => rfl
              | some d => exact absurd m (wipeE_some hx).1
          cases ht : t ρa with
          | st => rw [ht] at qi; exact qi
          | ex e ρ2 => rw [ht] at qi; exact qi.elim
          | ok bb ρ2 =>
            rw [ht] at qi
            intro Hb Zb Lb rb wb Fb
            have FB : Fr Hi Zi Li Hb Zb Lb := FA.trans Fb
            cases bb with
            | false =>
              rw [if_neg Bool.false_ne_true]
              obtain ⟨Lw2, sw2, rw2⟩ := relL_wipe rb vs
              rw [hwσ] at rw2
              have wB := wi.wait (repD_trk _ rq) (repD_nt _ rq) FB wb
              have rqB := repD_wait wi rq FB
              have sub3 : ((q :: gacc) ++ Lw2).Sublist ((q :: gacc) ++ Lb) := (List.Sublist.refl _).append sw2
              obtain ⟨p0, vs0, g0, e0, e1, e2, e3, _⟩ := rep_lst rqB
              cases e0
              rw [if_pos rfl] at e3
              cases e3
              exact ⟨Zb, Lw2, wipeE ρ2 vs, acc, vs0, gacc, rw2, wB.less sub3, e1, e2, by omega, (Fi.wait wi FB).less fun x m => sub3.subset m, idem ρ2, qi⟩
            | true =>
              rw [if_pos rfl]
              dsimp only at qi
              refine ⟨Zb, Lb, ρ2, rb, wb, ?_⟩
              cases hfv : f ρ2 with
              | st => rw [hfv] at qi; exact qi
              | ex e ρ3 => rw [hfv] at qi; exact qi.elim
              | ok yv ρ3 =>
                rw [hfv] at qi
                intro v Hc Zc Lc fpc rc wc hc Fc
                dsimp only at qi
                have FC : Fr Hi Zi Li Hc Zc (fpc ++ Lc) := FB.trans Fc
                have wC := wi.wait (repD_trk _ rq) (repD_nt _ rq) FC wc
                have rqC := repD_wait wi rq FC
                have FC1 := Fi.wait wi FC
                obtain ⟨p0, vs0, g0, e0, e1, e2, e3, _⟩ := rep_lst rqC
                cases e0
                rw [if_pos rfl] at e3
                cases e3
                have len := repL_len e2
                refine ⟨vs0, e1, cap_lt (by omega), ?_⟩
                obtain ⟨b1, b2, b3, b4⟩ := acc_put wC e1 e2 hc rc FC1
                obtain ⟨Lw2, sw2, rw2⟩ := relL_wipe b2 vs
                rw [hwσ] at rw2
                have sub3 : ((q :: (gacc ++ fpc)) ++ Lw2).Sublist ((q :: (gacc ++ fpc)) ++ Lc) := (List.Sublist.refl _).append sw2
                refine ⟨Zc, Lw2, wipeE ρ3 vs, acc ++ [yv], vs0 ++ [v], gacc ++ fpc, rw2, b3.less sub3, upd_same, b1, by simp; omega, b4.less fun x m => sub3.subset m, idem ρ3, ?_⟩
                cases hrest : lcL vs g t f (ds.drop (i + 1)) (wipeE ρ3 vs) with
                | st => rw [hrest] at qi; exact qi
                | ex e ρ4 => rw [hrest] at qi; exact qi
                | ok ys ρ4 =>
                  rw [hrest] at qi
                  show PostE K cA W σ H Z L Q (.ok (.lst true ((acc ++ [yv]) ++ ys)) _)
                  rw [List.append_assoc]
                  exact qi
theorem de_lc (hc : X.calm = true) (hN : X.N.Nodup) (hi : DI X cA W src tg iter) (ok : BlkOk X.N X.env.scope scope own) (hsub : ∀ i ∈ ts, i ∈ own.map (·.2))
    (hg : ∀ (s : Shared) (H : Hp) (C : Addr) (cl : List (Str × Addr)) (fp : List Addr), DG (X.blk s H scope (compEnvC scope cl C X.env) fp) cA ts g tg)
    (ht : ∀ (s : Shared) (H : Hp) (C : Addr) (cl : List (Str × Addr)) (fp : List Addr), DTs (X.blk s H scope (compEnvC scope cl C X.env) fp) cA WN t ifs)
    (he : ∀ (s : Shared) (H : Hp) (C : Addr) (cl : List (Str × Addr)) (fp : List Addr), DE (X.blk s H scope (compEnvC scope cl C X.env) fp) cA WN f elt) (hs : ∀ x, foldedSetIterable iter X.env x = pure x := by intro _; kernel_rfl) :
    DE X cA W (dLc (own.map (·.2)) src g t f) (.ListComp elt [⟨tg, iter, ifs, 0⟩] scope pos) := PE.imp (pe_lc (g := TGof X.K cA ts g) (tt := TTof X.K cA WN t) (te := TEof X.K cA WN f) hc hN hi ok hg ht he hs) (te_lc hsub)
theorem ds_setLc {k : Option Nat} {i : Nat} {y : Str} {py spos : Pos} (hc : X.calm = true) (hN : X.N.Nodup) (hy : X.N[i]? = some y) (hyl : X.env.scope.names.lookup y = some .local)
    (hsw : swapsWith (.ListComp elt [⟨tg, iter, ifs, 0⟩] scope pos) (some (.Name y py)) spos.line X.env = pure true) (hi : DI X cA W src tg iter) (ok : BlkOk X.N X.env.scope scope own) (hsub : ∀ i ∈ ts, i ∈ own.map (·.2))
    (hg : ∀ (s : Shared) (H : Hp) (C : Addr) (cl : List (Str × Addr)) (fp : List Addr), DG (X.blk s H scope (compEnvC scope cl C X.env) fp) cA ts g tg)
    (ht : ∀ (s : Shared) (H : Hp) (C : Addr) (cl : List (Str × Addr)) (fp : List Addr), DTs (X.blk s H scope (compEnvC scope cl C X.env) fp) cA WN t ifs)
    (he : ∀ (s : Shared) (H : Hp) (C : Addr) (cl : List (Str × Addr)) (fp : List Addr), DE (X.blk s H scope (compEnvC scope cl C X.env) fp) cA WN f elt) (hk : k ≠ some i := by decide) (hs : ∀ x, foldedSetIterable iter X.env x = pure x := by intro _; kernel_rfl) :
    DS X cA W k (dBind (dLc (own.map (·.2)) src g t f) (stSet i)) (.Assign [.Name y py] (.ListComp elt [⟨tg, iter, ifs, 0⟩] scope pos) spos) :=
  ds_of (L2.ps_setLc (g := TGof X.K cA ts g) (tt := TTof X.K cA WN t) (te := TEof X.K cA WN f) hc hN hy hyl hsw hi ok hg ht he hs) fun T σ H Z L ρ r w p => te_lc hsub σ H _ (bind_te r w p fun d ρ1 v H1 Z1 L1 fp hd r1 w1 h1 F1 p => put_slot hk r1 w1 h1 F1 p)
end
theorem ds_frz {X : Cx} {cA : Str → Addr} {W : WX} {k : Option Nat} {f : Env → Fl} {st : Stmt} (i : Nat) (h : DS X cA W k f st) (hk : k ≠ some i := by decide) : DS X cA W k (dSeq f fun ρ => match ρ[i]? with | some (some d) => .nx (ρ.set i (some (frz d))) | _ => .nx ρ) st :=
  ds_of h fun T σ H Z L ρ r w p => ⟨Z, L, ρ, r, w, by
    unfold dSeq at p
    cases hf : f ρ with
    | st => rw [hf] at p; exact p
    | bk ρ1 => rw [hf] at p; exact p
    | ct ρ1 => rw [hf] at p; exact p
    | rt d ρ1 => rw [hf] at p; exact p
    | ex e ρ1 => rw [hf] at p; exact p
    | nx ρ1 =>
      rw [hf] at p
      intro σ1 H1 Z1 L1 r1 w1 F1 q1
      dsimp only at p
      split at p
      · rename_i d hd
        obtain ⟨v, f0, f1, f2, hv, hr, ef, put, _⟩ := relL_at r1 hd
        have pm : L1.Perm (f1 ++ (f0 ++ f2)) := by
          rw [ef, List.append_assoc]
          exact (List.perm_append_comm_assoc f0 f1 f2)
        have q := put (H' := H1) (Z' := ZU Z1 f1) zu_sub (fun _ _ _ e => e) (repD_zu hr)
        rw [set_same hv, List.append_nil] at q
        exact p σ1 H1 _ _ q ((w1.perm pm).freeze (repD_trk d hr)) (Fr.freeze (F1.less fun x m => pm.mem_iff.mpr m)) q1
      · exact p σ1 H1 Z1 L1 r1 w1 F1 q1⟩
end DL
namespace DL
open PySem L2
section
variable {K : PySem.W.Frag} {cA : Str → Addr} {H : Hp} {Z : ZS}
theorem rep_ins {C : Str} {fs : List Str} {o : Bool} {xs : List D} {v : V} {fp : FP} (h : RepD K cA H Z (.n (.ins C fs) o xs) v fp) : ∃ p vs g dx, v = .ref p ∧ H p = some (.ins (cA C) dx (fs.zip vs)) ∧ fs.length = vs.length ∧ Cls K (cA C) ∧ (∀ f ∈ fs, NoAttr K (cA C) f) ∧
    RepL K cA H Z xs vs g ∧ fp = (if o then p :: g else []) ∧ (o = false → Z p ∧ g = []) := by
  obtain ⟨p, vs, g, e, hl, ⟨⟨dx, e1⟩, ⟨e2, e3, e4⟩, e5⟩, ef, hg⟩ := h
  exact ⟨p, vs, g, dx, e, e1, e2, e3, e4, hl, ef, fun q => ⟨e5 q, hg q⟩⟩
theorem zip_look {f : Str} : ∀ {fs : List Str} {xs : List D} {vs : List V} {g : FP} {d : D}, RepL K cA H Z xs vs g → (fs.zip xs).lookup f = some d → f ∈ fs ∧ ∃ v f0 f1 f2, (fs.zip vs).lookup f = some v ∧ RepD K cA H Z d v f1 ∧ g = f0 ++ f1 ++ f2
  | [], xs, vs, g, d, h, e => by simp at e
  | f' :: fs, [], vs, g, d, h, e => by simp at e
  | f' :: fs, x :: xs, vs, g, d, h, e => by
    obtain ⟨v, vs', f1, f2, ev, h1, h2, ef⟩ := h
    subst ev ef
    rw [List.zip_cons_cons, List.lookup_cons] at e
    rw [List.zip_cons_cons, List.lookup_cons]
    cases hf : f == f' with
    | true =>
      rw [hf] at e
      cases e
      have : f = f' := by simpa using hf
      exact ⟨by simp [this], v, [], f1, f2, rfl, h1, by simp⟩
    | false =>
      rw [hf] at e
      obtain ⟨m, u, g0, g1, g2, hu, hr, eg⟩ := zip_look h2 e
      exact ⟨by simp [m], u, f1 ++ g0, g1, g2, hu, hr, by rw [eg]; simp⟩
theorem zip_none {f : Str} : ∀ {fs : List Str} {vs : List V}, f ∉ fs → (fs.zip vs).lookup f = none
  | [], vs, _ => by simp
  | f' :: fs, [], _ => by simp
  | f' :: fs, v :: vs, h => by
    rw [List.zip_cons_cons, List.lookup_cons]
    have : (f == f') = false := by
      rw [beq_eq_false_iff_ne]
      exact fun e => h (by simp [e])
    rw [this]
    exact zip_none fun m => h (by simp [m])
theorem putF_new {f : Str} {v : V} : ∀ {fs : List Str} {vs : List V}, f ∉ fs → fs.length = vs.length → putF f v (fs.zip vs) = (fs ++ [f]).zip (vs ++ [v])
  | [], vs, _, hl => by
    have : vs = [] := List.eq_nil_of_length_eq_zero hl.symm
    subst this
    rfl
  | f' :: fs, [], _, hl => by simp at hl
  | f' :: fs, u :: vs, h, hl => by
    show (if f' = f then (f', v) :: fs.zip vs else (f', u) :: putF f v (fs.zip vs)) = _
    rw [if_neg fun e => h (by simp [e])]
    rw [putF_new (fun m => h (by simp [m])) (by simpa using hl)]
    rfl
end
def gFld (f : Str) : D → Option D
  | .n (.ins _ fs) _ xs => (match (fs.zip xs).lookup f with
    | some d => if isF d = true then some d else none
    | none => none)
  | _ => none
section
variable {X : Cx} {cA : Str → Addr} {W : WX} {fa : Env → Out D} {e o : Expr} {pos : Pos}
theorem de_fld {f : Str} (he : DP X cA W fa e) (hb : attributeBase e f X.env (eval e X.env) = eval e X.env := by kernel_rfl) : DE X cA W (dU (gFld f) fa) (.Attribute e f pos) :=
  PE.imp (pe_fld he hb) (te_un (r := fun x H1 Q => ∃ a C dx fs v, x = .ref a ∧ H1 a = some (.ins C dx fs) ∧ Cls X.K C ∧ NoAttr X.K C f ∧ fs.lookup f = some v ∧ Q v H1) (by
    refine ⟨@fun d1 d v1 H Z f1 Q h1 w hg q => ?_⟩
    unfold gFld at hg
    split at hg
    · rename_i C fs oo xs
      split at hg
      · rename_i d' hl
        split at hg
        · rename_i hF
          cases hg
          obtain ⟨p, vs, g, dx, rfl, e1, e2, e3, e4, rl, _, _⟩ := rep_ins h1
          obtain ⟨m, v, f0, f1, f2, hv, hr, eg⟩ := zip_look rl hl
          have efp := repD_isF _ hr hF
          subst efp
          exact ⟨p, cA C, dx, _, v, rfl, e1, e3, e4 f m, hv, q v H Z [] hr w Fr.refl⟩
        · cases hg
      · cases hg
    · cases hg))
def stFld (C f : Str) (i : Nat) (d : D) (ρ : Env) : Fl := match ρ[i]? with
  | some (some (.n (.ins C' fs) true xs)) => if C' = C ∧ f ∉ fs ∧ xs.length < 900 then .nx (ρ.set i (some (.n (.ins C (fs ++ [f])) true (xs ++ [d])))) else .st
  | _ => .st
theorem ds_fld {k : Option Nat} {C f : Str} {i : Nat} {pos' : Pos} (hC : Cls X.K (cA C)) (hf : NoAttr X.K (cA C) f) (ho : PE X o (tVar i)) (he : DE X cA W fa e) (hs : swapsWith e (some (.Attribute o f pos')) pos.line X.env = pure false := by kernel_rfl) :
    DS X cA W k (dBind fa (stFld C f i)) (.Assign [.Attribute o f pos'] e pos) := ds_of (ps_fld ho he hs) fun T σ H Z L ρ r w p => bind_te r w p fun d ρ1 v H1 Z1 L1 fp hd r1 w1 h1 F1 p => by
  unfold stFld at p
  split at p
  · rename_i C' fs xs hx
    split at p
    · rename_i hc
      obtain ⟨rfl, hnf, hlen⟩ := hc
      obtain ⟨u, f0, f1, f2, hv, hr, eL, put, _⟩ := relL_at r1 hx
      obtain ⟨q, vs, g, dx, rfl, e1, e2, e3, e4, rl, ef1, _⟩ := rep_ins hr
      rw [if_pos rfl] at ef1
      subst ef1
      have len := repL_len rl
      have zl : (fs.zip vs).length < 1000 := by rw [List.length_zip]; omega
      refine ⟨_, hv, q, cA C', dx, _, rfl, e1, e3, hf, zl, ?_⟩
      rw [putF_new hnf e2]
      -- the instance is written
      have nd := List.nodup_append.mp w1.nd
      rw [eL] at nd
      have ndL := List.nodup_append.mp nd.2.1
      have ndL1 := List.nodup_append.mp ndL.1
      have ndp := List.nodup_cons.mp ndL1.2.1
      have pz : ¬ Z1 q := w1.dj q (by rw [eL]; simp)
      have pf0 : q ∉ f0 := fun m => ndL1.2.2 q m q (by simp) rfl
      have pf2 : q ∉ f2 := fun m => ndL.2.2 q (by simp) q m rfl
      have pfp : q ∉ fp := fun m => nd.2.2 q m q (by simp) rfl
      generalize hH2 : upd H1 q (.ins (cA C') dx ((fs ++ [f]).zip (vs ++ [v]))) = H2
      have kn : ∀ a o, a ≠ q → H1 a = some o → H2 a = some o := fun a o n e => by rw [← hH2, upd_ne n]; exact e
      have h2q : H2 q = some (.ins (cA C') dx ((fs ++ [f]).zip (vs ++ [v]))) := by rw [← hH2]; exact upd_same
      have ra := repL_append rl (repL_one h1)
      have rep' : RepD X.K cA H2 Z1 (.n (.ins C' (fs ++ [f])) true (xs ++ [d])) (.ref q) (q :: (g ++ fp)) :=
        ⟨q, _, g ++ fp, rfl, repL_mono _ (fun _ z => z) (fun a o m e => kn a o (fun z => by
          subst z
          rcases m with m | m
          · exact pz m
          · rcases List.mem_append.mp m with m | m
            · exact ndp.1 m
            · exact pfp m) e) ra, ⟨⟨dx, h2q⟩, ⟨by simp [e2], e3, fun f' m => by
              rcases List.mem_append.mp m with m | m
              · exact e4 f' m
              · have : f' = f := by simpa using m
                rw [this]; exact hf⟩, fun z => nomatch z⟩, rfl, fun z => nomatch z⟩
      have q' := put (H' := H2) (Z' := Z1) (fun _ z => z) (fun a o m e => kn a o (fun z => by
        subst z
        rcases m with m | m | m
        · exact pz m
        · exact pf0 m
        · exact pf2 m) e) rep'
      rw [set_same hv] at q'
      have pm : (fp ++ (f0 ++ (q :: g) ++ f2)).Perm (f0 ++ (q :: (g ++ fp)) ++ f2) := by
        have a1 : (f0 ++ (q :: (g ++ fp)) ++ f2) = f0 ++ (q :: g) ++ (fp ++ f2) := by simp
        rw [a1]
        have a2 : (fp ++ (f0 ++ (q :: g) ++ f2)) = fp ++ ((f0 ++ (q :: g)) ++ f2) := rfl
        rw [a2]
        exact List.perm_append_comm_assoc fp (f0 ++ (q :: g)) f2
      rw [eL] at w1 F1
      have w2 := w1.perm pm
      refine p σ H2 Z1 _ q' ⟨w2.nd, w2.dj, fun a z => ?_⟩ ⟨fun a o e n => ?_, F1.zm, F1.zs, fun a m => F1.ls a (pm.mem_iff.mpr m)⟩ Pin.refl
      · obtain ⟨o, e⟩ := w1.tz a z
        by_cases h : a = q
        · subst h; exact absurd z pz
        · exact ⟨o, kn a o h e⟩
      · have e1 := F1.keep a o e n
        by_cases h : a = q
        · subst h
          rcases F1.ls a (by simp) with z | z
          · exact absurd z n
          · rw [z] at e; cases e
        · exact kn a o h e1
    · exact p.elim
  · exact p.elim
end
def dMeth (C m : Str) (n : Nat) (F : List D → FR) (fa : Env → Out D) (g : Env → Out (List Ag)) : Env → Out D := fun ρ => match fa ρ with
  | .ok (.n (.ins C' fs) false xs) ρ1 => if C' = C ∧ m ∉ fs ∧ isFL xs = true then dCall n (fun ds => F (.n (.ins C fs) false xs :: ds)) g ρ1 else .st
  | .ok _ _ => .st
  | .ex e ρ1 => .ex e ρ1
  | .st => .st
def dMake (C : Str) (n : Nat) (F : List D → FR) (g : Env → Out (List Ag)) : Env → Out D := fun ρ => match g ρ with
  | .ok ds ρ1 => (match agL ds with
    | some xs => if xs.length = n then (match F (.n (.ins C []) true [] :: frzL xs) with
      | .rt (.a .non) (some d) => .ok d ρ1
      | .ex e _ => .ex e ρ1
      | _ => .st) else .st
    | none => .st)
  | .ex e ρ1 => .ex e ρ1
  | .st => .st
section
variable {X : Cx} {cA : Str → Addr} {W : WX} {fa : Env → Out D} {g : Env → Out (List Ag)} {k n : Nat} {kio : Option Nat} {f : Addr} {fd : FuncData} {ps : List Str} {F : List D → FR} {x m : Str} {p pos apos : Pos} {o e : Expr} {es : List Expr}
def tMethS (C : Addr) (m : Str) (sp : Sp) (E : L2.St → XK) (ta : TE) (t : TA) : TE := fun σ H Q => ta σ H fun x H1 => ∃ a dx fs, x = .ref a ∧ H1 a = some (.ins C dx fs) ∧ fs.lookup m = none ∧ t σ H1 fun vs H2 => sp (x :: vs) H2 Q (E σ)
theorem pe_methS {C : Addr} {sp : Sp} {E : L2.St → XK} {ta : TE} {t : TA} {pl : Sem Bool} (he : PE X o ta) (c : Cls X.K C) (hm : Meth X.K C m f) (F : FnOk X.prog X.w X.K X.mg X.base (L2.CX X.prog X.w) k f fd ps sp) (hr : Room k X.A) (hb : Binds X.K fd ps []) (hx : ∀ σ, PassesAt (L2.CX X.prog X.w) X σ (E σ)) (ha : PA X (e :: es) t)
    (hst : starEach (e :: es) X.env = (false, eval e X.env) :: starEach es X.env := by kernel_rfl) (hpl : (backTo pos (starEach es X.env)).any (·.1) = false := by kernel_rfl)
    (ht : eval (.Call (.Attribute o m apos) (e :: es) [] pos) X.env = (do
      let ov ← eval o X.env
      standAt apos.atName
      let (f, first) ← holding [ov] (getMethod ov m pl)
      callWith pos f first (backTo pos (starEach (e :: es) X.env)) (backToKw pos (keywordEach [] X.env))) := by rfl) :
    PE X (.Call (.Attribute o m apos) (e :: es) [] pos) (tMethS C m sp E ta t) := by
  refine ⟨fun pins s σ H Q I h => ?_⟩
  refine PySem.W.methodCall_KW (pl := pl) (thn (he.run pins s σ H _ I h) fun u s1 ⟨x, H1, I1, rx, a, dx, fs, ex, ea, l, q⟩ => ?_) ht
  subst ex
  obtain rfl : u = Value.ref a := rx
  refine getmeth_ok I1 ea c hm l ?_
  refine PySem.W.callWith_K (first := [.ref a]) (h₀ := X.base) I.ok.mod.kin hm.kp (thn (ha.run pos pins s1 σ H1 _ I1 q) fun us s2 ⟨vs, H2, I2, r, q2⟩ => ⟨I2.kIn, ?_⟩) hst hpl
  exact run_fnS (us := .ref a :: us) (vs := .ref a :: vs) F hr hb (hx σ) I2 (.cons rfl r) q2
theorem pe_methS0 {C : Addr} {sp : Sp} {E : L2.St → XK} {ta : TE} {pl : Sem Bool} (he : PE X o ta) (c : Cls X.K C) (hm : Meth X.K C m f) (F : FnOk X.prog X.w X.K X.mg X.base (L2.CX X.prog X.w) k f fd ps sp) (hr : Room k X.A) (hb : Binds X.K fd ps []) (hx : ∀ σ, PassesAt (L2.CX X.prog X.w) X σ (E σ))
    (ht : eval (.Call (.Attribute o m apos) [] [] pos) X.env = (do
      let ov ← eval o X.env
      standAt apos.atName
      let (f, first) ← holding [ov] (getMethod ov m pl)
      callWith pos f first (backTo pos (starEach [] X.env)) (backToKw pos (keywordEach [] X.env))) := by rfl) :
    PE X (.Call (.Attribute o m apos) [] [] pos) (tMethS C m sp E ta tNil) := by
  refine ⟨fun pins s σ H Q I h => ?_⟩
  refine PySem.W.methodCall_KW (pl := pl) (thn (he.run pins s σ H _ I h) fun u s1 ⟨x, H1, I1, rx, a, dx, fs, ex, ea, l, q⟩ => ?_) ht
  subst ex
  obtain rfl : u = Value.ref a := rx
  refine getmeth_ok I1 ea c hm l ?_
  exact PySem.W.callWith_K0 (first := [.ref a]) I1.kIn hm.kp (run_fnS (us := [.ref a]) (vs := [.ref a]) F hr hb (hx σ) I1 (.cons rfl .nil) q)
theorem te_meth {K : PySem.W.Frag} {C : Str} : ∀ σ H Q, TEof K cA W (dMeth C m n F fa g) σ H Q → tMethS (cA C) m (spF K cA (n + 1) kio F) (WE W) (TEof K cA W fa) (TAof K cA W g) σ H Q := by
  rintro σ H Q ⟨Z, L, ρ, r, w, p⟩
  refine ⟨Z, L, ρ, r, w, ?_⟩
  unfold dMeth at p
  cases ha : fa ρ with
  | st => rw [ha] at p; exact p
  | ex e ρ' => rw [ha] at p; exact p
  | ok d ρ1 =>
    rw [ha] at p
    intro v H1 Z1 L1 f1 r1 w1 h1 F1
    split at p
    · rename_i C' fs xs ρ1' eo
      cases eo
      split at p
      · rename_i hc
        obtain ⟨rfl, hm, hF⟩ := hc
        have hisf : isF (.n (.ins C' fs) false xs) = true := by
          show (!false && isFL xs) = true
          rw [hF]; rfl
        have efp := repD_isF _ h1 hisf
        subst efp
        obtain ⟨q, vs, gg, dx, rfl, e1, e2, e3, e4, rl, _, zz⟩ := rep_ins h1
        refine ⟨q, dx, _, rfl, e1, zip_none hm, Z1, L1, ρ1, r1, w1, ?_⟩
        unfold dCall at p
        cases hg : g ρ1 with
        | st => rw [hg] at p; exact p
        | ex e ρ' => rw [hg] at p; exact exw p F1
        | ok ds ρ2 =>
          rw [hg] at p
          intro us H2 Z2 L2 f2 r2 w2 h2 F2
          dsimp only at p
          split at p
          · rename_i ys hy
            split at p
            · rename_i hn
              have hL := repA_L hy h2
              have hself : RepD K cA H2 Z2 (.n (.ins C' fs) false xs) (.ref q) [] := repD_wait (fp := []) w1 h1 F2
              have hall : RepL K cA H2 Z2 (.n (.ins C' fs) false xs :: ys) (.ref q :: us) f2 := ⟨.ref q, us, [], f2, rfl, hself, hL, rfl⟩
              refine call_in (xs := .n (.ins C' fs) false xs :: ys) (by simp [hn]) r2 w2 hall (F1.trans F2) ?_
              have efr : frzL (.n (.ins C' fs) false xs :: ys) = .n (.ins C' fs) false xs :: frzL ys := by
                show frz _ :: frzL ys = _
                rw [frz_isF _ hisf]
              rw [efr]
              exact p
            · exact p.elim
          · exact p.elim
      · exact p.elim
    · exact p.elim
    · rename_i e; cases e
    · rename_i e; cases e
theorem de_meth {C : Str} {pl : Sem Bool} (ho : DE X cA W fa o) (c : Cls X.K (cA C)) (hm : Meth X.K (cA C) m f) (Fo : FnOk X.prog X.w X.K X.mg X.base (L2.CX X.prog X.w) k f fd ps (spF X.K cA (n + 1) kio F)) (hr : Room k X.A) (hb : Binds X.K fd ps []) (tk : Takes X W) (ha : DA X cA W g (e :: es))
    (hst : starEach (e :: es) X.env = (false, eval e X.env) :: starEach es X.env := by kernel_rfl) (hpl : (backTo pos (starEach es X.env)).any (·.1) = false := by kernel_rfl)
    (ht : eval (.Call (.Attribute o m apos) (e :: es) [] pos) X.env = (do
      let ov ← eval o X.env
      standAt apos.atName
      let (f, first) ← holding [ov] (getMethod ov m pl)
      callWith pos f first (backTo pos (starEach (e :: es) X.env)) (backToKw pos (keywordEach [] X.env))) := by rfl) :
    DE X cA W (dMeth C m n F fa g) (.Call (.Attribute o m apos) (e :: es) [] pos) := PE.imp (pe_methS ho c hm Fo hr hb (passAt tk) ha hst hpl ht) te_meth
theorem de_meth0 {C : Str} {pl : Sem Bool} (ho : DE X cA W fa o) (c : Cls X.K (cA C)) (hm : Meth X.K (cA C) m f) (Fo : FnOk X.prog X.w X.K X.mg X.base (L2.CX X.prog X.w) k f fd ps (spF X.K cA (0 + 1) kio F)) (hr : Room k X.A) (hb : Binds X.K fd ps []) (tk : Takes X W)
    (ht : eval (.Call (.Attribute o m apos) [] [] pos) X.env = (do
      let ov ← eval o X.env
      standAt apos.atName
      let (f, first) ← holding [ov] (getMethod ov m pl)
      callWith pos f first (backTo pos (starEach [] X.env)) (backToKw pos (keywordEach [] X.env))) := by rfl) :
    DE X cA W (dMeth C m 0 F fa dANil) (.Call (.Attribute o m apos) [] [] pos) := PE.imp (pe_methS0 ho c hm Fo hr hb (passAt tk) ht) fun σ H Q p => by
  have q := te_meth (kio := kio) (g := dANil) σ H Q p
  obtain ⟨Z, L, ρ, r, w, q⟩ := q
  refine ⟨Z, L, ρ, r, w, ?_⟩
  cases ha : fa ρ with
  | st => rw [ha] at q; exact q
  | ex e ρ' => rw [ha] at q; exact q
  | ok d ρ1 =>
    rw [ha] at q
    intro v H1 Z1 L1 f1 r1 w1 h1 F1
    obtain ⟨a, dx, fs, e1, e2, e3, Z2, L2, ρ2, r2, w2, q2⟩ := q v H1 Z1 L1 f1 r1 w1 h1 F1
    exact ⟨a, dx, fs, e1, e2, e3, q2 [] H1 Z2 L2 [] r2 w2 ⟨rfl, rfl⟩ Fr.refl⟩
def tMakeS (C : Addr) (sp : Sp) (E : L2.St → XK) (t : TA) : TE := fun σ H Q => t σ H fun vs H1 => ∀ x dx, H1 x = none → H1 dx = none → dx ≠ x →
  sp (.ref x :: vs) (upd (upd H1 dx (.own x)) x (.ins C dx [])) (fun v H2 => v = .non ∧ Q (.ref x) H2) (E σ)
theorem pe_makeS {C : Addr} {sp : Sp} {E : L2.St → XK} {t : TA} (M : Mk X.K C f) (F : FnOk X.prog X.w X.K X.mg X.base (L2.CX X.prog X.w) k f fd ps sp) (hr : Room (k + 1) X.A) (hg : Gl X x) (hm : X.mg x = some (.ref C)) (hb : Binds X.K fd ps []) (hx : ∀ σ, PassesAt (L2.CX X.prog X.w) X σ (E σ))
    (ha : PA X (e :: es) t) (hdb : (x == ("__debug__" : Str)) = false := by kernel_rfl) (he : starEach (e :: es) X.env = (false, eval e X.env) :: starEach es X.env := by kernel_rfl) (hpl : (backTo pos (starEach es X.env)).any (·.1) = false := by kernel_rfl) :
    PE X (.Call (.Name x p) (e :: es) [] pos) (tMakeS C sp E t) := by
  refine ⟨fun pins s σ H Q I h => ?_⟩
  refine wpAny_Call_Name_kw (ld_glob I hg hm ?_ hdb)
  refine PySem.W.callWith_K (h₀ := X.base) I.ok.mod.kin M.kp (thn (ha.run pos pins s σ H _ I h) fun us s1 ⟨vs, H1, I1, r, q⟩ => ⟨I1.kIn, ?_⟩) he hpl
  -- as in run_make, what is raised wished for at the slots
  have hq := q (s1.heap.objs.size + 1) s1.heap.objs.size (I1.hok.fresh (Nat.le_succ _)) (I1.hok.fresh (Nat.le_refl _)) (Nat.ne_of_lt (Nat.lt_succ_self _))
  have I2 := Inv.made (C := C) I1
  have r2 : Vals (V.ref (s1.heap.objs.size + 1) :: vs) (Value.ref (s1.heap.objs.size + 1) :: us) := .cons rfl r
  have hl : (Value.ref (s1.heap.objs.size + 1) :: us).length = ps.length := by
    have e := r2.length
    rw [F.len _ _ _ _ hq] at e
    exact e.symm
  have b := hb _ (Value.ref (s1.heap.objs.size + 1) :: us) I2.kIn (by rw [List.append_nil]; exact hl)
  rw [List.append_nil] at b
  refine wpAny_call (make_map (f := f) I1.kIn M.makes M.init (beq_iff_eq.mp M.fn) (codeAny_mono (F.run _ X.stack _ _ ⟨Value.ref (s1.heap.objs.size + 1) :: us, []⟩ (Value.ref (s1.heap.objs.size + 1) :: us) _ _ (E σ) (hr.make C us [])
    (I2.env0.make C us []) b r2 hq) fun r s' hq' => ?_))
  cases r with
  | error e => exact hx σ pins _ _ e s' I2 hq'
  | ok fl =>
    cases fl with
    | ret u =>
      obtain ⟨v, H', I3, rv, ev, q3⟩ := I2.after hq'
      subst ev
      exact ⟨rv, ⟨V.ref (s1.heap.objs.size + 1), H', I3, rfl, q3⟩⟩
    | next => exact False.elim hq'
    | brk => exact False.elim hq'
    | cont => exact False.elim hq'
theorem te_make {K : PySem.W.Frag} {C : Str} (hC : Cls K (cA C)) : ∀ σ H Q, TEof K cA W (dMake C n F g) σ H Q → tMakeS (cA C) (spF K cA (n + 1) (some 0) F) (WE W) (TAof K cA W g) σ H Q := by
  rintro σ H Q ⟨Z, L, ρ, r, w, p⟩
  refine ⟨Z, L, ρ, r, w, ?_⟩
  unfold dMake at p
  cases hg : g ρ with
  | st => rw [hg] at p; exact p
  | ex e ρ' => rw [hg] at p; exact p
  | ok ds ρ1 =>
    rw [hg] at p
    intro vs H1 Z1 L1 f1 r1 w1 h1 F1
    dsimp only at p
    split at p
    · rename_i xs hx
      split at p
      · rename_i hn
        intro x dx nx ndx ne
        have hL := repA_L hx h1
        have wz := w1.freeze (repL_trk xs hL)
        have hf := repL_zu hL
        have Fz := F1.freeze
        generalize hH2 : upd (upd H1 dx (.own x)) x (.ins (cA C) dx []) = H2
        have kn : ∀ a o, H1 a = some o → H2 a = some o := fun a o e => by rw [← hH2, upd_ne (ne_of_none e nx), upd_ne (ne_of_none e ndx)]; exact e
        have h2x : H2 x = some (.ins (cA C) dx []) := by rw [← hH2]; exact upd_same
        have rx : RepD K cA H2 (ZU Z1 f1) (.n (.ins C []) true []) (.ref x) [x] := ⟨x, [], [], rfl, ⟨rfl, rfl⟩, ⟨⟨dx, h2x⟩, ⟨rfl, hC, fun f m => nomatch m⟩, fun z => nomatch z⟩, rfl, fun z => nomatch z⟩
        have xz : ¬ ZU Z1 f1 x := fun z => by obtain ⟨o, e⟩ := wz.tz x z; rw [nx] at e; cases e
        have w2 : Wf H2 (ZU Z1 f1) (([x] : FP) ++ L1) := ⟨List.nodup_append.mpr ⟨by simp, wz.nd, fun a ha b hb e => by
          have : a = x := by simpa using ha
          subst this e
          obtain ⟨o, e⟩ := relL_trk r1 a hb
          rw [nx] at e; cases e⟩, fun a m => by
            rcases List.mem_append.mp m with m | m
            · have : a = x := by simpa using m
              subst this; exact xz
            · exact wz.dj a m, fun a z => let ⟨o, e⟩ := wz.tz a z; ⟨o, kn a o e⟩⟩
        have r2 : RelL K cA H2 (ZU Z1 f1) ρ1 σ L1 := relL_mono (fun _ z => z) (fun a o _ e => kn a o e) (relL_zu r1)
        have F2 : Fr H Z L H2 (ZU Z1 f1) (([x] : FP) ++ L1) := Fz.trans ⟨fun a o e _ => kn a o e, fun _ z => z, fun _ z => .inl z, fun a m => by
          rcases List.mem_append.mp m with m | m
          · have : a = x := by simpa using m
            subst this; exact .inr nx
          · exact .inl m⟩
        have hall : RepL K cA H2 (ZU Z1 f1) (.n (.ins C []) true [] :: frzL xs) (.ref x :: vs) [x] := ⟨.ref x, vs, [x], [], rfl, rx, repL_mono _ (fun _ z => z) (fun a o _ e => kn a o e) hf, rfl⟩
        refine ⟨by rw [List.length_cons, repL_len hL, hn], _, ZU Z1 f1, [x], hall, w2.less (List.sublist_append_left _ _), ?_⟩
        have wsw : Wf H2 (ZU Z1 f1) (L1 ++ [x]) := w2.swap
        cases hF : F (.n (.ins C []) true [] :: frzL xs) with
        | st => rw [hF] at p; exact p
        | ex e io =>
          rw [hF] at p
          intro cls d H3 Z3 g3 ri w3 x3 F3
          have F3' : Fr H2 (ZU Z1 f1) [x] H3 Z3 [] := F3.less fun a m => nomatch m
          obtain ⟨b1, b2, b3⟩ := hand w2 r2 F3' (wf0 w3)
          exact p cls d H3 Z3 L1 b1 b2 x3 (F2.trans b3)
        | rt d io =>
          rw [hF] at p
          intro v H3 Z3 fp g3 ri h3 w3 F3
          split at p
          · rename_i d1 e
            cases e
            obtain ⟨e1, e2⟩ := h3
            subst e1 e2
            obtain ⟨v', hv', hr'⟩ := ri
            cases hv'
            refine ⟨rfl, ?_⟩
            obtain ⟨b1, b2, b3⟩ := hand w2 r2 F3 w3
            exact p _ H3 Z3 L1 g3 b1 b2 hr' (F2.trans b3)
          · rename_i e; cases e
          · exact p.elim
      · exact p.elim
    · exact p.elim
theorem de_make {C : Str} (hC : Cls X.K (cA C)) (M : Mk X.K (cA C) f) (Fo : FnOk X.prog X.w X.K X.mg X.base (L2.CX X.prog X.w) k f fd ps (spF X.K cA (n + 1) (some 0) F)) (hr : Room (k + 1) X.A) (hg : Gl X x) (hm : X.mg x = some (.ref (cA C))) (hb : Binds X.K fd ps []) (tk : Takes X W)
    (ha : DA X cA W g (e :: es)) (hdb : (x == ("__debug__" : Str)) = false := by kernel_rfl) (he : starEach (e :: es) X.env = (false, eval e X.env) :: starEach es X.env := by kernel_rfl) (hpl : (backTo pos (starEach es X.env)).any (·.1) = false := by kernel_rfl) :
    DE X cA W (dMake C n F g) (.Call (.Name x p) (e :: es) [] pos) := PE.imp (pe_makeS M Fo hr hg hm hb (passAt tk) ha hdb he hpl) (te_make hC)
end
def dPopAt (i : Nat) (fj : Env → Out D) : Env → Out D := fun ρ => match ρ[i]? with
  | some (some (.n .lst true _)) => (match fj ρ with
    | .ok (.a (.int z)) ρ1 => (match ρ1[i]? with
      | some (some (.n .lst true xs)) => if -1000000 ≤ z ∧ z ≤ 1000000 then (match seqIndex? z xs.length with
        | some j => (match xs[j]? with
          | some d => .ok d (ρ1.set i (some (.lst true (xs.eraseIdx j))))
          | none => .st)
        | none => .st) else .st
      | _ => .st)
    | .ok _ _ => .st
    | .ex e ρ1 => .ex e ρ1
    | .st => .st)
  | _ => .st
section
variable {X : Cx} {cA : Str → Addr} {W : WX} {f : Env → Out D} {e o : Expr} {apos cpos : Pos}
theorem de_popAt {i : Nat} (ho : PE X o (tVar i)) (he : DE X cA W f e)
    (hbase : attributeBase o "pop" X.env (eval o X.env) = eval o X.env := by kernel_rfl)
    (hfew : ((backTo cpos (starEach [e] X.env)).all (fun x => !x.1) && (backToKw cpos (keywordEach [] X.env)).all (fun x => x.1.isSome)
      && decide ([e].length + ([] : List Keyword).length + (if ([] : List Keyword).isEmpty then 0 else 1) < 30)) = true := by kernel_rfl)
    (hline : (apos.endLine == cpos.line) = true := by kernel_rfl) (hs : starEach [e] X.env = (false, eval e X.env) :: starEach [] X.env := by kernel_rfl) : DE X cA W (dPopAt i f) (.Call (.Attribute o "pop" apos) [e] [] cpos) :=
  de_of (pe_bm PySem.F.plainAttrs_list PySem.F.slot_list_pop PySem.F.type_list_pop mt_popAt ho (pa_cons he pa_nil hs) hbase hfew hline hs rfl) fun σ H Q Z L ρ r w p => by
    unfold dPopAt at p
    split at p
    · rename_i zs hz
      obtain ⟨p0, vs0, g0, f0, f2, hv, e0, _, _, _⟩ := relL_own r hz
      refine ⟨_, hv, .inl ⟨rfl, _, SqL.of e0⟩, ?_⟩
      refine post_int (f := f) r w ?_
      cases hf : f ρ with
      | st => rw [hf] at p; exact p
      | ex e ρ1 => rw [hf] at p; exact p
      | ok d1 ρ1 =>
        rw [hf] at p
        cases d1 with
        | n k o xs => exact p.elim
        | a x =>
          cases x with
          | non => exact p.elim
          | bl b => exact p.elim
          | str s => exact p.elim
          | int z =>
            intro H1 Z1 L1 r1 w1 F1
            dsimp only at p
            split at p
            · rename_i xs hx
              split at p
              · rename_i hb
                split at p
                · rename_i j hj
                  split at p
                  · rename_i d hd
                    obtain ⟨q, vs, g, f0', f2', hσ, hp, rx, eL, put⟩ := relL_own r1 hx
                    rw [hv] at hσ
                    cases hσ
                    have len := repL_len rx
                    obtain ⟨v, h0, hfp, h2, hvj, hrd, eg, rer⟩ := repL_erase rx hd
                    show rPopAt (.ref p0) [.int z] H1 Q
                    refine ⟨p0, vs, z, j, v, rfl, rfl, hp, by omega, by omega, by rw [len]; exact hj, hvj, ?_⟩
                    have nd := w1.nd
                    rw [eL, eg] at nd
                    have nd1 := List.nodup_append.mp nd
                    have nd2 := List.nodup_append.mp nd1.1
                    have nd3 := List.nodup_cons.mp nd2.2.1
                    have sub : (h0 ++ h2).Sublist g := by
                      rw [eg, List.append_assoc]
                      exact (List.Sublist.refl h0).append (List.sublist_append_right _ _)
                    have ndg : g.Nodup := by rw [eg]; exact nd3.2
                    have w1' : Wf H1 Z1 (([] : FP) ++ L1) := w1
                    have F1' : Fr H Z L H1 Z1 (([] : FP) ++ L1) := F1
                    obtain ⟨a, b, c⟩ := own_write w1' r1 hp eL hv put rer (fun a m => .inl (sub.subset m)) (ndg.sublist sub) F1'
                    -- the item taken out is in hand
                    have pit : p0 ∉ hfp := fun m => nd3.1 (by simp [m])
                    have kn : ∀ a o, a ≠ p0 → H1 a = some o → upd H1 p0 (.lst (vs.eraseIdx j)) a = some o := fun a o n e => by rw [upd_ne n]; exact e
                    have pz : ¬ Z1 p0 := w1.dj p0 (by rw [eL]; simp)
                    have hrd' : RepD X.K cA (upd H1 p0 (.lst (vs.eraseIdx j))) Z1 d v hfp := repD_mono d (fun _ z => z) (fun a o m e => kn a o (fun z => by
                      subst z
                      exact m.elim pz pit) e) hrd
                    have pm : (hfp ++ (f0' ++ (p0 :: (h0 ++ h2)) ++ f2')).Perm (f0' ++ (p0 :: (h0 ++ hfp ++ h2)) ++ f2') := by
                      have a1 : f0' ++ (p0 :: (h0 ++ hfp ++ h2)) ++ f2' = (f0' ++ (p0 :: h0)) ++ (hfp ++ (h2 ++ f2')) := by simp
                      have a2 : hfp ++ (f0' ++ (p0 :: (h0 ++ h2)) ++ f2') = hfp ++ ((f0' ++ (p0 :: h0)) ++ (h2 ++ f2')) := by simp
                      rw [a1, a2]
                      exact List.perm_append_comm_assoc hfp (f0' ++ (p0 :: h0)) (h2 ++ f2')
                    have wfin : Wf (upd H1 p0 (.lst (vs.eraseIdx j))) Z1 (hfp ++ (f0' ++ (p0 :: (h0 ++ h2)) ++ f2')) := by
                      refine ⟨pm.nodup_iff.mpr nd, fun a m => w1.dj a (by rw [eL, eg]; exact pm.mem_iff.mp m), b.tz⟩
                    exact p v _ Z1 _ hfp a wfin hrd' ⟨c.keep, c.zm, c.zs, fun a m => F1.ls a (by rw [eL, eg]; exact pm.mem_iff.mp m)⟩
                  · exact p.elim
                · exact p.elim
              · exact p.elim
            · exact p.elim
    · exact p.elim
end
end DL
namespace DL
open PySem L2
def tyN : D → Option String
  | .a .non => some "NoneType"
  | .a (.bl _) => some "bool"
  | .a (.int _) => some "int"
  | .a (.str _) => some "str"
  | .n .tup _ _ => some "tuple"
  | .n .lst _ _ => some "list"
  | .n (.dct _) _ _ => some "dict"
  | _ => none
def isiT (t T : String) : Bool := t == T || (t == "bool" && T == "int")
def tyAll : List String := ["NoneType", "bool", "int", "str", "tuple", "list", "dict"]
theorem kit_tab : ∀ t ∈ tyAll, ∀ T ∈ tyAll, kitB t T = some (isiT t T) := by decide +kernel
section
variable {K : PySem.W.Frag} {cA : Str → Addr} {H : Hp} {Z : ZS}
theorem tyN_ok {d : D} {t : String} {v : V} {fp : FP} (e : tyN d = some t) (h : RepD K cA H Z d v fp) : t ∈ tyAll ∧ TyX K H v (.type t) := by
  cases d with
  | a x =>
    obtain ⟨e1, _⟩ := h
    subst e1
    cases x with
    | non => cases e; exact ⟨by decide, .base .non⟩
    | bl b => cases e; exact ⟨by decide, .base (.bl b)⟩
    | int i => cases e; exact ⟨by decide, .base (.int i)⟩
    | str s => cases e; exact ⟨by decide, .base (.str s)⟩
  | n k o xs =>
    cases k with
    | tup =>
      cases e
      obtain ⟨p, vs, rfl, e1, r1, _, _, c⟩ := rep_tup h
      refine ⟨by decide, ?_⟩
      rcases c with ⟨_, o, r, _⟩ | ⟨o, its, n, hk, hc, _⟩
      · exact .fTuple r
      · exact .kTuple hk hc
    | lst =>
      cases e
      obtain ⟨p, vs, g, rfl, e1, _⟩ := rep_lst h
      exact ⟨by decide, .base (.lst e1)⟩
    | scr => cases e
    | dct ks =>
      cases e
      obtain ⟨p, vs, g, rfl, hl, hc, _⟩ := h
      exact ⟨by decide, .base (.dK hc.1)⟩
    | xt t => cases e
    | ins C fs => cases e
end
def gIsi (T : String) : D → Option D := fun d => match tyN d with
  | some t => some (.bl (isiT t T))
  | none => none
def gIsi2 (T U : String) : D → Option D := fun d => match tyN d with
  | some t => some (.bl (isiT t T || isiT t U))
  | none => none
theorem vu_isi {K : PySem.W.Frag} {cA : Str → Addr} {T : String} (hT : T ∈ tyAll) : VU K cA (fun v H Q => rIsi K [v, .ty T] H Q) (gIsi T) := by
  refine ⟨@fun d1 d v1 H Z f1 Q h1 w hg q => ?_⟩
  unfold gIsi at hg
  split at hg
  · rename_i t e
    cases hg
    obtain ⟨ht, ty⟩ := tyN_ok e h1
    exact ⟨_, _, _, _, _, rfl, .ty T, ty, kit_ty (kit_tab t ht T hT), q _ H Z [] ⟨rfl, rfl⟩ w Fr.refl⟩
  · cases hg
theorem vu_isi2 {K : PySem.W.Frag} {cA : Str → Addr} {T U : String} (hT : T ∈ tyAll) (hU : U ∈ tyAll) : VU K cA (fun v H Q => (2 : Nat) ≤ sizeLine ∧ ∀ p, H p = none → rIsiT K [v, .ref p] (upd H p (.tup [.ty T, .ty U])) Q) (gIsi2 T U) := by
  refine ⟨@fun d1 d v1 H Z f1 Q h1 w hg q => ⟨by rw [sizeLine_eq]; omega, fun p hp => ?_⟩⟩
  unfold gIsi2 at hg
  split at hg
  · rename_i t e
    cases hg
    have kn := keep_new (o := .tup [.ty T, .ty U]) hp
    have h2 : RepD K cA (upd H p (.tup [.ty T, .ty U])) Z d1 v1 f1 := repD_mono d1 (fun _ z => z) (fun a o _ e => kn a o e) h1
    obtain ⟨ht, ty⟩ := tyN_ok e h2
    refine ⟨v1, p, _, _, [.type T, .type U], _, rfl, upd_same, .cons (.ty T) (.cons (.ty U) .nil), ty, ?_, q _ _ Z [] ⟨rfl, rfl⟩ ((wf_new w hp (fun a m => nomatch m)).less (List.nil_sublist _)) ((fr_new hp).less fun a m => nomatch m)⟩
    refine kitAny_cons (kit_ty (kit_tab t ht T hT)) (fun e1 => ?_) fun e1 => by rw [e1]; rfl
    rw [e1]
    refine kitAny_cons (kit_ty (kit_tab t ht U hU)) (fun e2 => ?_) fun e2 => by rw [e2]; rfl
    rw [e2]
    rfl
  · cases hg
section
variable {X : Cx} {cA : Str → Addr} {W : WX} {fa fb : Env → Out D} {a b : Expr} {pos : Pos}
theorem de_isi {x : Str} {T : String} {p q : Pos} (hg : Gl X "isinstance") (hm : X.mg "isinstance" = none) (hg2 : Gl X x) (hm2 : X.mg x = none) (hv2 : bootBuiltins x = some (.type T)) (hT : T ∈ tyAll) (ha : DP X cA W fa a)
    (hn2 : x ≠ "__name__" := by decide +kernel) (hd2 : (x == ("__debug__" : Str)) = false := by kernel_rfl)
    (hs1 : starEach [a, .Name x q] X.env = (false, eval a X.env) :: starEach [.Name x q] X.env := by kernel_rfl) (hs2 : starEach [.Name x q] X.env = (false, eval (.Name x q) X.env) :: starEach [] X.env := by kernel_rfl) (hpl : (backTo pos (starEach [.Name x q] X.env)).any (·.1) = false := by kernel_rfl) :
    DE X cA W (dU (gIsi T) fa) (.Call (.Name "isinstance" p) [a, .Name x q] [] pos) :=
  PE.imp (pe_callB call_isi hg hm PyProof.Rows.boot_isinstance (pa_cons ha (pa_cons (pe_bltn (v := .ty T) hg2 hm2 hv2 rfl hn2 hd2) pa_nil hs2) hs1) (by decide) (by decide) hs1 hpl) (te_un (vu_isi hT))
theorem de_isi2 {x y : Str} {T U : String} {p q q2 q3 : Pos} {kk : Nat} (hg : Gl X "isinstance") (hm : X.mg "isinstance" = none) (hg2 : Gl X x) (hm2 : X.mg x = none) (hv2 : bootBuiltins x = some (.type T)) (hT : T ∈ tyAll) (hg3 : Gl X y) (hm3 : X.mg y = none) (hv3 : bootBuiltins y = some (.type U)) (hU : U ∈ tyAll) (ha : DP X cA W fa a)
    (hn2 : x ≠ "__name__" := by decide +kernel) (hd2 : (x == ("__debug__" : Str)) = false := by kernel_rfl) (hn3 : y ≠ "__name__" := by decide +kernel) (hd3 : (y == ("__debug__" : Str)) = false := by kernel_rfl)
    (hs1 : starEach [a, .Tuple [.Name x q, .Name y q2] kk q3] X.env = (false, eval a X.env) :: starEach [.Tuple [.Name x q, .Name y q2] kk q3] X.env := by kernel_rfl) (hs2 : starEach [.Tuple [.Name x q, .Name y q2] kk q3] X.env = (false, eval (.Tuple [.Name x q, .Name y q2] kk q3) X.env) :: starEach [] X.env := by kernel_rfl) (hpl : (backTo pos (starEach [.Tuple [.Name x q, .Name y q2] kk q3] X.env)).any (·.1) = false := by kernel_rfl)
    (hs3 : starEach [.Name x q, .Name y q2] X.env = (false, eval (.Name x q) X.env) :: starEach [.Name y q2] X.env := by kernel_rfl) (hs4 : starEach [.Name y q2] X.env = (false, eval (.Name y q2) X.env) :: starEach [] X.env := by kernel_rfl) :
    DE X cA W (dU (gIsi2 T U) fa) (.Call (.Name "isinstance" p) [a, .Tuple [.Name x q, .Name y q2] kk q3] [] pos) :=
  PE.imp (pe_callB call_isiT hg hm PyProof.Rows.boot_isinstance (pa_cons ha (pa_cons (pe_tup (pa_cons (pe_bltn (v := .ty T) hg2 hm2 hv2 rfl hn2 hd2) (pa_cons (pe_bltn (v := .ty U) hg3 hm3 hv3 rfl hn3 hd3) pa_nil hs4) hs3)) pa_nil hs2) hs1) (by decide) (by decide) hs1 hpl) (te_un (vu_isi2 hT hU))
abbrev gBits : D → Option D := gI fun i => (Builtin.Int.intBits i : Nat)
theorem de_bits {apos : Pos} (ha : DE X cA W fa a) (hbase : attributeBase a "bit_length" X.env (eval a X.env) = eval a X.env := by kernel_rfl) (hline : (apos.endLine == pos.line) = true := by kernel_rfl) : DE X cA W (dU gBits fa) (.Call (.Attribute a "bit_length" apos) [] [] pos) :=
  PE.imp (pe_bits (dp_de ha) hbase hline) (te_un (vu_i (f := fun i => (Builtin.Int.intBits i : Nat))))
end
theorem gl_of {X : Cx} {x : Str} (h : X.env.scope.names.lookup x = some .globalImplicit := by kernel_rfl) : Gl X x := h
theorem pvl {X : Cx} (i : Nat) {x : Str} {pos : Pos} (hN : X.N[i]? = some x := by kernel_rfl) (hv : X.env.scope.names.lookup x = some .local := by kernel_rfl) (hd : (x == ("__debug__" : Str)) = false := by kernel_rfl) (hc : (x == ("__classdict__" : Str)) = false := by kernel_rfl) : PE X (.Name x pos) (tVar i) := pe_var hN (.inl hv) hd hc
theorem pvc {X : Cx} (i : Nat) {x : Str} {pos : Pos} (hN : X.N[i]? = some x := by kernel_rfl) (hv : X.env.scope.names.lookup x = some .cell := by kernel_rfl) (hd : (x == ("__debug__" : Str)) = false := by kernel_rfl) (hc : (x == ("__classdict__" : Str)) = false := by kernel_rfl) : PE X (.Name x pos) (tVar i) := pe_var hN (.inr (.inl hv)) hd hc
def dDp (f : Env → Out D) : Env → Out D := fun ρ => match f ρ with
  | .ok d ρ1 => if isF d = true then .ok d ρ1 else .st
  | .ex e ρ1 => .ex e ρ1
  | .st => .st
def dFrz (i : Nat) (f : Env → Fl) : Env → Fl := dSeq f fun ρ => match ρ[i]? with | some (some d) => .nx (ρ.set i (some (frz d))) | _ => .nx ρ
theorem ds_frzN {X : Cx} {cA : Str → Addr} {W : WX} {k : Option Nat} {f : Env → Fl} {st : Stmt} (i : Nat) (h : DS X cA W k f st) (hk : k ≠ some i := by decide) : DS X cA W k (dFrz i f) st := ds_frz i h hk
theorem room_u1 {k : Nat} {A : Around} (r : Room k A) : A.units + 65 < cLine := by have := r.un; omega
structure OkC (P : Program) (w : World) (K : PySem.W.Frag) (mg : Str → Option Value) (base : Heap) (f : Addr) (ps : List Str) (k : Nat) (sp : Sp) : Prop where
  ex : ∃ fd, FnOk P w K mg base (L2.CX P w) k f fd ps sp ∧ Binds K fd ps []
section
variable {P : Program} {w : World} {K : PySem.W.Frag} {cA : Str → Addr} {mg : Str → Option Value} {base : Heap}
theorem fn_okF0 {x qual : Str} {params : Arguments} {stb : List Stmt} {scope : Scope} {f : Addr} {fd : FuncData} {N ps : List Str} {k : Nat} {kio : Option Nat} {body : Env → Fl} (F : FunD K x qual params stb scope [] [] f fd) (S : FnScope N ps scope)
    (hb : ∀ (cdv : Value) (A : Around) (outer : List PySem.Env) (s : Shared) (H : Hp) (E : XK), Room k (A.deeper (PyProof.Rows.envOfC qual scope s.heap.objs.size f cdv)) →
      DSs (cxOf (L2.CX P w) P w K mg base N qual scope f cdv A outer s H E) cA (fun cls d _ H' => E cls d H') kio body stb) :
    FnOk P w K mg base (L2.CX P w) (k + 1) f fd ps (spF K cA ps.length kio (fnD N.length kio body)) := by
  refine F.ok S (fun vs H Q E h => h.1) fun cdv A outer s H vs Q E hr h => ?_
  obtain ⟨hl, ds, Z, L, r, wf, p⟩ := h
  refine ⟨_, hb cdv A outer s H E hr, ?_⟩
  have e : N.length - ds.length = N.length - vs.length := by rw [repL_len r]
  refine ⟨Z, L, ds.map some ++ List.replicate (N.length - vs.length) none, relL_start r, wf, ?_⟩
  unfold fnD at p
  rw [e] at p
  cases hbo : body (ds.map some ++ List.replicate (N.length - vs.length) none) with
  | st => rw [hbo] at p; exact p
  | bk ρ => rw [hbo] at p; exact p.elim
  | ct ρ => rw [hbo] at p; exact p.elim
  | nx ρ =>
    rw [hbo] at p
    intro σ' H' Z' L' r' w' F' pn
    obtain ⟨g, hg, ri⟩ := io_end (σ0 := σ') r' pn
    exact p _ H' Z' [] g ri ⟨rfl, rfl⟩ (w'.less hg) (F'.less fun x m => hg.subset m)
  | rt d ρ =>
    rw [hbo] at p
    intro v σ' H' Z' L' fp r' w' h' F' pn
    obtain ⟨g, hg, ri⟩ := io_end (σ0 := σ') r' pn
    exact p v H' Z' fp g ri h' (wf_sub2 w' hg) (fr_sub2 F' hg)
  | ex e ρ =>
    rw [hbo] at p
    intro cls d σ' H' Z' L' r' w' x' F' pn
    obtain ⟨g, hg, ri⟩ := io_end (σ0 := σ') r' pn
    exact p cls d H' Z' g ri (w'.less hg) x' (F'.less fun x m => hg.subset m)
theorem fn_okD0 {x qual : Str} {params : Arguments} {stb : List Stmt} {scope : Scope} {f : Addr} {N ps : List Str} {k : Nat} {kio : Option Nat} {body : Env → Fl} (F : ∃ fd, FunD K x qual params stb scope [] [] f fd) (S : FnScope N ps scope)
    (hbi : ∀ (kV doc pm : Value) (an : Option Addr) (cdv ct : Value) (us : List Value), us.length = ps.length → bindArgs (PySem.W.fnOf x qual params stb scope .none kV doc pm an cdv ct) ⟨us, []⟩ = pure (ps.zip us))
    (hb : ∀ (cdv : Value) (A : Around) (outer : List PySem.Env) (s : Shared) (H : Hp) (E : XK), Room k (A.deeper (PyProof.Rows.envOfC qual scope s.heap.objs.size f cdv)) →
      DSs (cxOf (L2.CX P w) P w K mg base N qual scope f cdv A outer s H E) cA (fun cls d _ H' => E cls d H') kio body stb) :
    OkC P w K mg base f ps (k + 1) (spF K cA ps.length kio (fnD N.length kio body)) :=
  let ⟨fd, F⟩ := F
  ⟨fd, fn_okF0 F S hb, F.bindsN hbi⟩
theorem fn_okF {x qual : Str} {params : Arguments} {stb : List Stmt} {scope : Scope} {f : Addr} {fd : FuncData} {N ps : List Str} {k n m : Nat} {kio : Option Nat} {body : Env → Fl} (F : FunD K x qual params stb scope [] [] f fd) (S : FnScope N ps scope)
    (hb : ∀ (cdv : Value) (A : Around) (outer : List PySem.Env) (s : Shared) (H : Hp) (E : XK), Room k (A.deeper (PyProof.Rows.envOfC qual scope s.heap.objs.size f cdv)) →
      DSs (cxOf (L2.CX P w) P w K mg base N qual scope f cdv A outer s H E) cA (fun cls d _ H' => E cls d H') kio body stb) (hn : ps.length = n := by kernel_rfl) (hm : N.length = m := by kernel_rfl) :
    FnOk P w K mg base (L2.CX P w) (k + 1) f fd ps (spF K cA n kio (fnD m kio body)) := by
  subst hn hm
  exact fn_okF0 F S hb
theorem fn_okD {x qual : Str} {params : Arguments} {stb : List Stmt} {scope : Scope} {f : Addr} {N ps : List Str} {k n m : Nat} {kio : Option Nat} {body : Env → Fl} (F : ∃ fd, FunD K x qual params stb scope [] [] f fd) (S : FnScope N ps scope)
    (hbi : ∀ (kV doc pm : Value) (an : Option Addr) (cdv ct : Value) (us : List Value), us.length = ps.length → bindArgs (PySem.W.fnOf x qual params stb scope .none kV doc pm an cdv ct) ⟨us, []⟩ = pure (ps.zip us))
    (hb : ∀ (cdv : Value) (A : Around) (outer : List PySem.Env) (s : Shared) (H : Hp) (E : XK), Room k (A.deeper (PyProof.Rows.envOfC qual scope s.heap.objs.size f cdv)) →
      DSs (cxOf (L2.CX P w) P w K mg base N qual scope f cdv A outer s H E) cA (fun cls d _ H' => E cls d H') kio body stb) (hn : ps.length = n := by kernel_rfl) (hm : N.length = m := by kernel_rfl) :
    OkC P w K mg base f ps (k + 1) (spF K cA n kio (fnD m kio body)) := by
  subst hn hm
  exact fn_okD0 F S hbi hb
theorem takes_cx {N : List Str} {qual : Str} {scope : Scope} {f : Addr} {cdv : Value} {A : Around} {outer : List PySem.Env} {s : Shared} {H : Hp} {E : XK} : Takes (cxOf (L2.CX P w) P w K mg base N qual scope f cdv A outer s H E) (fun cls d _ H' => E cls d H') := takes_of rfl rfl rfl rfl
theorem passes_cx {N : List Str} {qual : Str} {scope : Scope} {f : Addr} {cdv : Value} {A : Around} {outer : List PySem.Env} {s : Shared} {H : Hp} {E : XK} :
    PassesOwn (model (cxOf (L2.CX P w) P w K mg base N qual scope f cdv A outer s H E).prog (cxOf (L2.CX P w) P w K mg base N qual scope f cdv A outer s H E).w) (cxOf (L2.CX P w) P w K mg base N qual scope f cdv A outer s H E).A (cxOf (L2.CX P w) P w K mg base N qual scope f cdv A outer s H E).env (cxOf (L2.CX P w) P w K mg base N qual scope f cdv A outer s H E).xe := passes_of rfl
end
section
variable {X : Cx} {cA : Str → Addr} {W : WX} {g : Env → Out (List Ag)} {fa : Env → Out D} {o e : Expr} {es : List Expr} {x m : Str} {f : Addr} {ps : List Str} {k n : Nat} {kio : Option Nat} {F : List D → FR} {p pos apos : Pos}
theorem de_callG (Fo : OkC X.prog X.w X.K X.mg X.base f ps k (spF X.K cA n kio F)) (hr : Room k X.A) (hg : Gl X x) (hm : X.mg x = some (.ref f) ∧ PySem.W.keepIn X.K (.ref f) = true) (tk : Takes X W) (ha : DA X cA W g (e :: es)) (hdb : (x == ("__debug__" : Str)) = false := by kernel_rfl)
    (he : starEach (e :: es) X.env = (false, eval e X.env) :: starEach es X.env := by kernel_rfl) (hpl : (backTo pos (starEach es X.env)).any (·.1) = false := by kernel_rfl) : DE X cA W (dCall n F g) (.Call (.Name x p) (e :: es) [] pos) :=
  let ⟨fd, Fo, hb⟩ := Fo.ex
  de_call Fo hr hg hm.1 hm.2 hb tk ha hdb he hpl
theorem de_callLG (Fo : OkC X.prog X.w X.K X.mg X.base f ps k (spF X.K cA n kio F)) (hr : Room k X.A) (hg : Gl X x) (hm : X.mg x = some (.ref f) ∧ PySem.W.keepIn X.K (.ref f) = true) (tk : Takes X W) (ha : DA X cA W g (e :: es)) (hdb : (x == ("__debug__" : Str)) = false := by kernel_rfl)
    (he : starEach (e :: es) X.env = (false, eval e X.env) :: starEach es X.env := by kernel_rfl) (hpl : (backTo pos (starEach es X.env)).any (·.1) = false := by kernel_rfl) : DE X cA W (dCallL n kio F g) (.Call (.Name x p) (e :: es) [] pos) :=
  let ⟨fd, Fo, hb⟩ := Fo.ex
  de_callL Fo hr hg hm.1 hm.2 hb tk ha hdb he hpl
end
theorem repL_ints {K : PySem.W.Frag} {cA : Str → Addr} {H : Hp} {Z : ZS} : ∀ ns : List Int, RepL K cA H Z (ns.map D.int) (ns.map V.int) []
  | [] => ⟨rfl, rfl⟩
  | n :: ns => ⟨.int n, ns.map V.int, [], [], rfl, ⟨rfl, rfl⟩, repL_ints ns, rfl⟩
theorem law_sp {K : PySem.W.Frag} {cA : Str → Addr} {F : List D → FR} {H : Hp} {a : Addr} {ns : List Int} (hS : SqL K H a (ns.map V.int)) (law : F [.scr (ns.map D.int)] = .rt (.bl true) none) : spF K cA 1 none F [.ref a] H (fun v _ => v = .bl true) fun _ _ _ => False := by
  have fin : ∀ Z : ZS, Wf H Z [] → Cont K cA H Z a (ns.map V.int) .scr false → spF K cA 1 none F [.ref a] H (fun v _ => v = .bl true) fun _ _ _ => False := by
    intro Z w c
    refine ⟨rfl, [.scr (ns.map D.int)], Z, [], ⟨.ref a, [], [], [], rfl, ⟨a, ns.map V.int, [], rfl, repL_ints ns, c, rfl, fun _ => rfl⟩, ⟨rfl, rfl⟩, rfl⟩, w, ?_⟩
    rw [law]
    intro v H' Z' fp g hi hd _ _
    exact hd.1
  rcases hS with r | r
  · refine fin (fun b => b = a) ⟨List.nodup_nil, fun a m => (nomatch m), fun b e => ?_⟩ ⟨rfl, .inl ⟨rfl, r⟩⟩
    subst e
    rcases r with r | ⟨o, r⟩
    · exact ⟨_, r⟩
    · exact ⟨_, r⟩
  · exact fin (fun _ => False) ⟨List.nodup_nil, fun a m => (nomatch m), fun b e => e.elim⟩ ⟨rfl, .inr r⟩
theorem law_end {l : PySem.W.OpenLaw} {k : Nat} {q : Program} {loose : List Str} {XP : (Str → Option Value) → Heap → Prop} {YP : World → Heap → Prop} {d : DefRec} {x : Str} {cA : PySem.W.Frag → Str → Addr} {F : List D → FR}
    (hn : l.most = some 63) (hdf : d.params.defaults = []) (hr : Room k callerA)
    (HF : ∀ (w : World) (mg : Str → Option Value) (fa : Addr) (h : Heap), YP w h → h.Ns mainGlobals mg → mg d.name = some (.ref fa) →
      ∃ (K : PySem.W.Frag) (fd : FuncData), K.In h ∧ (∀ (s : Shared) (u : Value), BindsTo s fd ⟨[u], []⟩ [(x, u)]) ∧
        ∀ base : Heap, K.In base → base.Ns mainGlobals mg → FnOk l.prog w K mg base (L2.CX l.prog w) k fa fd [x] (spF K (cA K) 1 none F))
    (law : ∀ ns : List Int, ns.length ≤ 63 → (∀ z ∈ ns, Builtin.Int.intBits z ≤ 1048576) → F [.scr (ns.map D.int)] = .rt (.bl true) none) :
    PySem.W.WalkO q loose XP YP l.row.toRowW d [] (fun f vs => PySem.call f vs) := by
  refine Att.attach_callB hn hdf fun w s₀ s₁ mg mb fa o pm cd doc a vs ns G Y ho hd hcd hmg hobj hints hlen hbits hg => ?_
  obtain ⟨K, fd, KX, hb, hF⟩ := HF w mg fa _ Y G.T.g hmg
  refine law_call KX G.T.g G.T.b G.T.builtins G.T.nolimit hg hobj hints (Nat.le_trans hlen (by rw [sizeLine_eq]; omega)) hr hF hb (fun H hO hS => law_sp hS (law ns hlen hbits)) fun H e s' z => ?_
  obtain ⟨_, _, _, _, _, _, _, _, _, _, _, _, z⟩ := z
  exact z.elim
end DL
namespace DL
open PySem L2
section
variable {X : Cx} {cA : Str → Addr} {W : WX} {g : Env → Out (List Ag)} {fa fb : Env → Out D} {a b o e : Expr} {es : List Expr} {x m : Str} {f : Addr} {ps : List Str} {k n : Nat} {kio : Option Nat} {F : List D → FR} {p pos apos : Pos}
theorem de_methG {C : Str} {pl : Sem Bool} (ho : DE X cA W fa o) (c : Cls X.K (cA C)) (hm : Meth X.K (cA C) m f) (Fo : OkC X.prog X.w X.K X.mg X.base f ps k (spF X.K cA (n + 1) kio F)) (hr : Room k X.A) (tk : Takes X W) (ha : DA X cA W g (e :: es))
    (hst : starEach (e :: es) X.env = (false, eval e X.env) :: starEach es X.env := by kernel_rfl) (hpl : (backTo pos (starEach es X.env)).any (·.1) = false := by kernel_rfl)
    (ht : eval (.Call (.Attribute o m apos) (e :: es) [] pos) X.env = (do
      let ov ← eval o X.env
      standAt apos.atName
      let (f, first) ← holding [ov] (getMethod ov m pl)
      callWith pos f first (backTo pos (starEach (e :: es) X.env)) (backToKw pos (keywordEach [] X.env))) := by rfl) :
    DE X cA W (dMeth C m n F fa g) (.Call (.Attribute o m apos) (e :: es) [] pos) :=
  let ⟨fd, Fo, hb⟩ := Fo.ex
  de_meth ho c hm Fo hr hb tk ha hst hpl ht
theorem de_meth0G {C : Str} {pl : Sem Bool} (ho : DE X cA W fa o) (c : Cls X.K (cA C)) (hm : Meth X.K (cA C) m f) (Fo : OkC X.prog X.w X.K X.mg X.base f ps k (spF X.K cA (0 + 1) kio F)) (hr : Room k X.A) (tk : Takes X W)
    (ht : eval (.Call (.Attribute o m apos) [] [] pos) X.env = (do
      let ov ← eval o X.env
      standAt apos.atName
      let (f, first) ← holding [ov] (getMethod ov m pl)
      callWith pos f first (backTo pos (starEach [] X.env)) (backToKw pos (keywordEach [] X.env))) := by rfl) :
    DE X cA W (dMeth C m 0 F fa dANil) (.Call (.Attribute o m apos) [] [] pos) :=
  let ⟨fd, Fo, hb⟩ := Fo.ex
  de_meth0 ho c hm Fo hr hb tk ht
theorem de_makeG {C : Str} (hC : Cls X.K (cA C)) (M : Mk X.K (cA C) f) (Fo : OkC X.prog X.w X.K X.mg X.base f ps k (spF X.K cA (n + 1) (some 0) F)) (hr : Room (k + 1) X.A) (hg : Gl X x) (hm : X.mg x = some (.ref (cA C))) (tk : Takes X W)
    (ha : DA X cA W g (e :: es)) (hdb : (x == ("__debug__" : Str)) = false := by kernel_rfl) (he : starEach (e :: es) X.env = (false, eval e X.env) :: starEach es X.env := by kernel_rfl) (hpl : (backTo pos (starEach es X.env)).any (·.1) = false := by kernel_rfl) :
    DE X cA W (dMake C n F g) (.Call (.Name x p) (e :: es) [] pos) :=
  let ⟨fd, Fo, hb⟩ := Fo.ex
  de_make hC M Fo hr hg hm hb tk ha hdb he hpl
end
def gLRng : D → Option D
  | .a (.int n) => if -4611686018427387904 ≤ n ∧ n ≤ 16777216 then some (.lst true (intL 0 n.toNat)) else none
  | _ => none
def gTRng : D → Option D
  | .a (.int n) => if -4611686018427387904 ≤ n ∧ n ≤ 16777216 then some (.tup (intL 0 n.toNat)) else none
  | _ => none
section
variable {X : Cx} {cA : Str → Addr} {W : WX} {fa fb : Env → Out D} {a b : Expr} {pos p p2 pos2 : Pos}
end
def blsOf : List D → Option (List Bool)
  | [] => some []
  | .a (.bl b) :: xs => (blsOf xs).map (b :: ·)
  | _ :: _ => none
def intsOf : List D → Option (List Int)
  | [] => some []
  | .a (.int i) :: xs => (intsOf xs).map (i :: ·)
  | _ :: _ => none
section
variable {K : PySem.W.Frag} {cA : Str → Addr} {H : Hp} {Z : ZS}
theorem blsOf_rep : ∀ {xs : List D} {bs : List Bool} {vs : List V} {g : FP}, blsOf xs = some bs → RepL K cA H Z xs vs g → vs = bs.map V.bl
  | [], bs, vs, g, e, h => by
    cases e
    exact h.1
  | x :: xs, bs, vs, g, e, h => by
    obtain ⟨v, vs', f1, f2, ev, h1, h2, _⟩ := h
    subst ev
    cases x with
    | n _ _ _ => cases e
    | a y =>
      cases y with
      | bl b =>
        unfold blsOf at e
        cases e2 : blsOf xs with
        | none => rw [e2] at e; cases e
        | some bs' =>
          rw [e2] at e
          cases e
          obtain ⟨e3, _⟩ := h1
          subst e3
          rw [blsOf_rep e2 h2]
          rfl
      | non => cases e
      | int i => cases e
      | str s => cases e
theorem intsOf_rep : ∀ {xs : List D} {bs : List Int} {vs : List V} {g : FP}, intsOf xs = some bs → RepL K cA H Z xs vs g → vs = bs.map V.int
  | [], bs, vs, g, e, h => by
    cases e
    exact h.1
  | x :: xs, bs, vs, g, e, h => by
    obtain ⟨v, vs', f1, f2, ev, h1, h2, _⟩ := h
    subst ev
    cases x with
    | n _ _ _ => cases e
    | a y =>
      cases y with
      | int b =>
        unfold intsOf at e
        cases e2 : intsOf xs with
        | none => rw [e2] at e; cases e
        | some bs' =>
          rw [e2] at e
          cases e
          obtain ⟨e3, _⟩ := h1
          subst e3
          rw [intsOf_rep e2 h2]
          rfl
      | non => cases e
      | bl i => cases e
      | str s => cases e
end
def gAll : D → Option D
  | .n .lst _ xs => (blsOf xs).map fun bs => .bl (bs.all id)
  | _ => none
def gSum : D → Option D
  | .n .lst _ xs => (intsOf xs).map fun ns => .int ns.sum
  | _ => none
def gMax1 : D → Option D
  | .n .lst _ xs => (match intsOf xs with
    | some ns => ns.max?.map D.int
    | none => none)
  | _ => none
def insI (a : Int) : List Int → List Int
  | [] => [a]
  | b :: bs => if a ≤ b then a :: b :: bs else b :: insI a bs
def sortI : List Int → List Int
  | [] => []
  | a :: as => insI a (sortI as)
section
variable {K : PySem.W.Frag} {cA : Str → Addr}
theorem vc_all : VC1 K cA (rAll K) gAll := by
  refine ⟨@fun d1 d v1 H Z f1 Q h1 w hg q => ?_⟩
  unfold gAll at hg
  split at hg
  · rename_i o xs
    obtain ⟨p, vs, g, rfl, e1, r1, _⟩ := rep_lst h1
    cases e : blsOf xs with
    | none => rw [e] at hg; cases hg
    | some bs =>
      rw [e] at hg
      cases hg
      have ev := blsOf_rep e r1
      subst ev
      exact ⟨p, bs, rfl, SqL.of e1, q _ H Z [] ⟨rfl, rfl⟩ w Fr.refl⟩
  · cases hg
theorem vc_sum : VC1 K cA (rSum K) gSum := by
  refine ⟨@fun d1 d v1 H Z f1 Q h1 w hg q => ?_⟩
  unfold gSum at hg
  split at hg
  · rename_i o xs
    obtain ⟨p, vs, g, rfl, e1, r1, _⟩ := rep_lst h1
    cases e : intsOf xs with
    | none => rw [e] at hg; cases hg
    | some bs =>
      rw [e] at hg
      cases hg
      have ev := intsOf_rep e r1
      subst ev
      exact ⟨p, bs, rfl, SqL.of e1, q _ H Z [] ⟨rfl, rfl⟩ w Fr.refl⟩
  · cases hg
end
def gMin2 : D → D → Option D := gII (fun _ _ => true) fun i j => if j < i then j else i
theorem vop_call2 {K : PySem.W.Frag} {cA : Str → Addr} {f : Int → Int → Int} : VOp2 K cA (fun x y H Q => ∃ i j, [x, y] = [V.int i, V.int j] ∧ Q (V.int (f i j)) H) (gII (fun _ _ => true) f) := vop_at fun d1 d2 d hg => by
  unfold gII at hg
  split at hg
  · rename_i i j
    split at hg
    · cases hg
      exact ⟨_, _, _, rfl, rfl, rfl, fun H Q q => ⟨i, j, rfl, q⟩⟩
    · cases hg
  · cases hg
theorem boot_min : bootBuiltins "min" = some (.builtin "min") := by decide +kernel
theorem boot_sum : bootBuiltins "sum" = some (.builtin "sum") := by decide +kernel
theorem boot_all : bootBuiltins "all" = some (.builtin "all") := by decide +kernel
theorem boot_sorted : bootBuiltins "sorted" = some (.builtin "sorted") := by decide +kernel
section
variable {X : Cx} {cA : Str → Addr} {W : WX} {fa fb : Env → Out D} {a b : Expr} {p pos : Pos}
theorem de_all (hc : X.calm = true) (hg : Gl X "all") (hm : X.mg "all" = none) (ha : DP X cA W fa a) (hs : starEach [a] X.env = (false, eval a X.env) :: starEach [] X.env := by kernel_rfl) : DE X cA W (dU gAll fa) (.Call (.Name "all" p) [a] [] pos) :=
  de_callB (cr_all hc) vc_all hg hm boot_all ha (by decide) (by decide) hs hs
theorem de_sum (hc : X.calm = true) (hg : Gl X "sum") (hm : X.mg "sum" = none) (ha : DP X cA W fa a) (hs : starEach [a] X.env = (false, eval a X.env) :: starEach [] X.env := by kernel_rfl) : DE X cA W (dU gSum fa) (.Call (.Name "sum" p) [a] [] pos) :=
  de_callB (cr_sum hc) vc_sum hg hm boot_sum ha (by decide) (by decide) hs hs
theorem de_min2 (hc : X.calm = true) (hg : Gl X "min") (hm : X.mg "min" = none) (ha : DE X cA W fa a) (hb : DE X cA W fb b) (hs1 : starEach [a, b] X.env = (false, eval a X.env) :: starEach [b] X.env := by kernel_rfl) (hs2 : starEach [b] X.env = (false, eval b X.env) :: starEach [] X.env := by kernel_rfl)
    (hpl : (backTo pos (starEach [b] X.env)).any (·.1) = false := by kernel_rfl) : DE X cA W (dOp2 gMin2 fa fb) (.Call (.Name "min" p) [a, b] [] pos) :=
  PE.imp (pe_callB (call_min2 hc) hg hm boot_min (pa_cons ha (pa_cons hb pa_nil hs2) hs1) (by decide) (by decide) hs1 hpl) (te_op2 vop_call2)
end
end DL
namespace DL
open PySem L2
theorem wipeE_fix : ∀ (us : List Nat) (ρ : Env), (∀ i ∈ us, i < ρ.length → ρ[i]? = some none) → wipeE ρ us = ρ := by
  intro us
  induction us with
  | nil => intro ρ _; rfl
  | cons v us ih =>
    intro ρ h
    unfold wipeE
    rw [ih ρ fun i m => h i (by simp [m])]
    apply List.ext_getElem?
    intro j
    by_cases e : v = j
    · subst e
      by_cases hl : v < ρ.length
      · rw [List.getElem?_set_self hl, h v (by simp) hl]
      · rw [List.getElem?_eq_none (by rw [List.length_set]; omega), List.getElem?_eq_none (by omega)]
    · rw [List.getElem?_set_ne e]
theorem wipeE_idem (ρ : Env) (vs : List Nat) : wipeE ρ vs = wipeE (wipeE ρ vs) vs := by
  refine (wipeE_fix vs (wipeE ρ vs) fun i m hl => ?_).symm
  cases hx : (wipeE ρ vs)[i]? with
  | none =>
    have := List.getElem?_eq_none_iff.mp hx
    omega
  | some o =>
    cases o with
    | none => rfl
    | some d => exact absurd m (wipeE_some hx).1
section
variable {K : PySem.W.Frag} {cA : Str → Addr}
end
section
variable {X : Cx} {cA : Str → Addr} {W : WX} {src src1 : Env → Out (List D)} {ts ts1 : List Nat} {g g1 : D → Env → Option Env} {t t1 : Env → Out Bool} {f : Env → Out D} {iter iter1 tg tgB elt : Expr} {ifs ifs1 : List Expr} {scope : Scope} {own : List (Str × Nat)} {vs1 : List Nat} {pos : Pos}
end
end DL
namespace DL
open PySem L2 PyProof.Rows
section
variable {X : Cx} {cA : Str → Addr} {C : Str} {f : Addr} {fd : FuncData} {ps : List Str} {k : Nat} {kio : Option Nat} {F : List D → FR}
end
end DL
namespace HN2
open PySem PySem.Spec PyProof.Rows PySem.SeqAt
section
variable {prog : Program} {w : World} {A : Around} {E : Value → Shared → Prop} {s : Shared} {K : PySem.W.Frag} {x y C f : Addr} {ox : Obj} {od : Option Obj}
end
end HN2
namespace DL
open PySem L2 PyProof.Rows
section
variable {X : Cx} {cA : Str → Addr} {C : Str} {f : Addr} {ps : List Str} {k : Nat} {kio : Option Nat} {F : List D → FR}
structure NoNe (K : PySem.W.Frag) (C : Addr) : Prop where
  ne : PySem.W.findIn K (.ref C) "__ne__" = some (some (.builtin "object.__ne__"))
  ob : PySem.W.mroIn K C (.type "object") = some true
end
end DL
namespace DL
open PySem L2 PyProof.Rows
structure ClsX (K : PySem.W.Frag) (C : Addr) : Prop where
  ne : PySem.W.findIn K (.ref C) "__ne__" = some (some (.builtin "object.__ne__"))
  ob : PySem.W.mroIn K C (.type "object") = some true
  kc : PySem.W.findIn K (.ref C) "__class__" = some (some (.builtin "object.__class__"))
  kg : PySem.W.specialIn K (.builtin "object.__class__") "__get__" = some (some (.builtin "getset_descriptor.__get__"))
  kt : PySem.W.takesIn K (.builtin "object.__class__") = some true
def clsXB (K : PySem.W.Frag) (C : Addr) : Bool := decide (PySem.W.findIn K (.ref C) "__ne__" = some (some (.builtin "object.__ne__"))) && (decide (PySem.W.mroIn K C (.type "object") = some true) &&
  (decide (PySem.W.findIn K (.ref C) "__class__" = some (some (.builtin "object.__class__"))) && (decide (PySem.W.specialIn K (.builtin "object.__class__") "__get__" = some (some (.builtin "getset_descriptor.__get__"))) && decide (PySem.W.takesIn K (.builtin "object.__class__") = some true))))
theorem clsXB_ok {K : PySem.W.Frag} {C : Addr} (h : clsXB K C = true) : ClsX K C := by
  unfold clsXB at h
  simp only [Bool.and_eq_true, decide_eq_true_eq] at h
  exact ⟨h.1, h.2.1, h.2.2.1, h.2.2.2.1, h.2.2.2.2⟩
def obsX (fa : List He.Fa) (fn : List He.DefD) (xs : List Str) (K : PySem.W.Frag) : He.AlD × Bool := (He.obsD fa fn K, xs.all fun x => clsXB K (He.ga K x))
def SaysX (fa : List He.Fa) (fn : List He.DefD) (xs : List Str) (K : PySem.W.Frag) : Prop := obsX fa fn xs K = (He.valD fn, true)
theorem SaysX.d {fa : List He.Fa} {fn : List He.DefD} {xs : List Str} {K : PySem.W.Frag} (h : SaysX fa fn xs K) : He.SaysD fa fn K := congrArg (fun z : He.AlD × Bool => z.1) h
theorem SaysX.x {fa : List He.Fa} {fn : List He.DefD} {xs : List Str} {K : PySem.W.Frag} (h : SaysX fa fn xs K) (i : Nat) {x : Str} (e : xs[i]? = some x) : ClsX K (He.ga K x) := by
  have c : (xs.all fun x => clsXB K (He.ga K x)) = true := congrArg (fun z : He.AlD × Bool => z.2) h
  exact clsXB_ok (List.all_eq_true.mp c x (List.mem_of_getElem? e))
section
variable {X : Cx} {cA : Str → Addr} {W : WX} {fa fb : Env → Out D} {a b : Expr} {pos : Pos}
end
end DL
namespace DL
open PySem L2 PyProof.Rows NdefX
structure SupC (P : Program) (K : PySem.W.Frag) (C fI : Addr) (f : Str) : Prop where
  ox : OexC K C
  keep : PySem.W.keepIn K (.ref C) = true
  iC : PySem.W.findIn K (.ref C) "__init__" = some (some (.ref fI))
  tI : PySem.W.typeIn K (.ref fI) = some (.type "function")
  noF : PySem.W.findIn K (.ref C) f = some none
  cl : ∃ cd, PySem.W.clsIn K C = some cd ∧ PySem.W.mroIn K C (.ref C) = some true
  su : PySem.W.ks_superIn K C C "__init__" = some (some (.builtin "ValueError.__init__"))
  ve : PySem.W.subIn K (.ref C) (.type "ValueError") = some true
  op : PySem.W.nsIn K cStatics "thirdparty.any" = some none
  top : (P.main.scope.names.lookup ("super" : Str)).isSome = false
structure SupF (P : Program) (K : PySem.W.Frag) (C fI : Addr) (fd : FuncData) (F : NF) : Prop where
  ex : ∃ (oc : Value) (od : Option Addr) (doc pm ctv : Value) (osl : Array (Option Value)), fd = F.fd doc pm ctv ∧ K.lookup fI = some ⟨oc, od, .func fd, osl⟩
  cd : PySem.W.codeIn K (.ref F.c) F.qual = true
  file : ∃ ccl cdd vs ccs file tf, K.lookup F.c = some ⟨ccl, cdd, .fields vs, ccs⟩ ∧ vs[2]? = some (.str file tf) ∧ ((P.main.file : Str) == file) = true
  cell : ∃ cc cl cld csl, F.cl = [(("__class__" : Str), cc)] ∧ K.lookup cc = some ⟨cl, cld, .cell (some (.ref C)), csl⟩
section
variable {P : Program} {w : World} {K : PySem.W.Frag} {mg : Str → Option Value} {base : Heap} {C fI : Addr} {f p : Str} {fd : FuncData} {F : NF}
abbrev scx (P : Program) (w : World) (K : PySem.W.Frag) (mg : Str → Option Value) (base : Heap) (p : Str) (F : NF) (fI : Addr) (A : Around) (outer : List PySem.Env) (s : Shared) (H : Hp) (E : XK) : Cx := ncx (L2.CX P w) P w K mg base ["self", p, "__class__"] F fI A outer s H E
def spSup (K : PySem.W.Frag) (C : Addr) (f : Str) (ok : V → Bool) : Sp := fun vs H Q E => vs.length = 2 ∧ ∃ a x, vs = [.ref a, x] ∧ ok x = true ∧ H a = some (exo a C none) ∧ ∀ dx, H dx = none → dx ≠ a → Q .non (upd (upd H dx (exd dx [(f, x)])) a (exo a C (some dx)))
theorem call_mw {X : Cx} {pins : List (Addr × Obj)} {σ : L2.St} {H : Hp} {s : Shared} {a u C : Addr} {us : List Value} {A : Around} {E : Value → Shared → Prop} {Q : Value → Shared → Prop} (T : OexC X.K C) (I : Inv X pins σ H s) (e : H a = some (exo a C none)) (hu : s.heap.get? u = some (PySem.W.kxs_mw "ValueError.__init__" a))
    (hl : us.length ≤ sizeLine) (h : ∀ s', Inv X pins σ H s' → Q .none s') : wpAny (model X.prog X.w) A (call (.ref u) us) Q E s := by
  obtain ⟨nm, q, N, bs, bm, sn, sub, ab, col, dd, k0, k1, k2, k3, k5, hC, hbm⟩ := T.cls
  obtain ⟨t1, ho⟩ := exo_at I.hok e
  have hC' := I.kIn _ _ hC
  obtain ⟨hp, g, d, t, os⟩ := s
  have FB := PySem.F.excBase_ValueError
  refine wpAny_call (codeAny_of_tree ?_)
  show wpAny _ A.in1 (callAny (.ref u) ⟨us, []⟩) _ _ _
  simp only [callAny]
  refine wpAny_bind (wpAny_load hu ?_)
  simp only [PySem.W.kxs_mw, show (Value.type "method-wrapper" == Value.type "method" || Value.type "method-wrapper" == Value.type "builtin_function_or_method" || Value.type "method-wrapper" == Value.type "method-wrapper") = true by decide, if_true]
  refine PySem.W.KFB.if_so (by decide) ?_
  refine wpAny_bind (PySem.W.check_bound_init FB.toExcCallFacts hC' ho rfl ?_)
  refine wpAny_bind (wpAny_pure (wpAny_pure ?_))
  refine ⟨plainId_quiet FB.init.plain _, codeAny_builtin FB.initEntry ?_⟩
  refine PySem.W.exc_init_tree (cls := .ref C) (t0 := t1) (dv := none) (c2 := .none) (c3 := .none) (b4 := .bool false) ho hl fun h' k hx _ => ?_
  have J := I.write (t' := t) (x := a) (e := a) (o := exo a C none) (by rw [e]; exact True.intro) (.inl rfl) k ⟨_, hx⟩ (exo_ok hx)
  have eu : upd H a (exo a C none) = H := by
    funext b
    by_cases hb : b = a
    · rw [hb, upd_same, e]
    · rw [upd_ne hb]
  rw [eu] at J
  exact h _ J
theorem sup_stmt {A : Around} {outer : List PySem.Env} {s0 : Shared} {H0 : Hp} {E0 : XK} (T : SupC P K C fI f) (TF : SupF P K C fI fd F) (hself : (F.params.posonlyargs ++ F.params.args).head?.map (·.arg) = some "self") (hsl : F.scope.names.lookup ("self" : Str) = some .local)
    (hsu : F.scope.names.lookup ("super" : Str) = some .globalImplicit) (hcl : F.scope.names.lookup ("__class__" : Str) = some .free) (hmg : mg "super" = none)
    {e : Expr} {te : TE} {p0 p1 p2 p3 p4 : Pos} (he : PE (scx P w K mg base p F fI A outer s0 H0 E0) e te) {s : Shared} {σ : L2.St} {H : Hp} {a : Addr} {Q : Flow → Shared → Prop}
    (I : Inv (scx P w K mg base p F fI A outer s0 H0 E0) [] σ H s) (hσ : σ[0]? = some (some (.ref a))) (ha : H a = some (exo a C none)) (hte : te σ H fun v H1 => H1 = H ∧ [v].length = 1)
    (hk : F.scope.kind = .function) (hst : starEach [e] (envF F fI s0.heap.objs.size) = (false, eval e (envF F fI s0.heap.objs.size)) :: starEach [] (envF F fI s0.heap.objs.size))
    (hsw : swapsWith (.Call (.Attribute (.Call (.Name "super" p0) [] [] p1) "__init__" p2) [e] [] p3) none p4.line (envF F fI s0.heap.objs.size) = pure false)
    (hev : ∃ pl : Sem Bool, eval (.Call (.Attribute (.Call (.Name "super" p0) [] [] p1) "__init__" p2) [e] [] p3) (envF F fI s0.heap.objs.size) = (do
      let ov ← attributeBase (.Call (.Name "super" p0) [] [] p1) "__init__" (envF F fI s0.heap.objs.size) (eval (.Call (.Name "super" p0) [] [] p1) (envF F fI s0.heap.objs.size))
      standAt p2.atName
      let (f, first) ← holding [ov] (getMethod ov "__init__" pl)
      callWith p3 f first (backTo p3 (starEach [e] (envF F fI s0.heap.objs.size))) []))
    (h : ∀ s', Inv (scx P w K mg base p F fI A outer s0 H0 E0) [] σ H s' → Q .next s') :
    _root_.PySem.wpAt (model P w) (A.deeper (envF F fI s0.heap.objs.size)) (.func F.body (envF F fI s0.heap.objs.size)) (exec (.Expr (.Call (.Attribute (.Call (.Name "super" p0) [] [] p1) "__init__" p2) [e] [] p3) p4) (envF F fI s0.heap.objs.size)) Q
      (scx P w K mg base p F fI A outer s0 H0 E0).xe s := by
  obtain ⟨oc, od, doc, pm, ctv, osl, rfl, lk⟩ := TF.ex
  obtain ⟨ccl, cdd, vs, ccs, file, tf, lc, hvs, hfile⟩ := TF.file
  obtain ⟨cc, ccl2, cld, csl, ecl, lcell⟩ := TF.cell
  obtain ⟨cd, hcd, hmro⟩ := T.cl
  obtain ⟨pl, hev⟩ := hev
  have KX : K.In s.heap := I.kIn
  have hat : (("__init__" : Str) == ("__class__" : Str)) = false := by decide +kernel
  obtain ⟨ar, hp, har⟩ : ∃ ar, (F.params.posonlyargs ++ F.params.args).head? = some ar ∧ ar.arg = "self" := by
    cases q : (F.params.posonlyargs ++ F.params.args).head? with
    | none => rw [q] at hself; cases hself
    | some ar => rw [q] at hself; exact ⟨ar, rfl, Option.some.inj hself⟩
  obtain ⟨m, hn, hl⟩ := I.loc
  obtain ⟨u, ru, lu⟩ := hl 0 "self" (.ref a) rfl hσ (.inl hsl)
  obtain rfl : u = Value.ref a := ru
  have hm : m "self" = some (.ref a) := by
    rcases lu with ⟨_, e⟩ | ⟨q, _⟩
    · exact e
    · have q : F.scope.names.lookup ("self" : Str) = some .cell ∨ F.scope.names.lookup ("self" : Str) = some .free := q
      rw [hsl] at q
      rcases q with q | q <;> cases q
  obtain ⟨t1, hoa⟩ := exo_at I.hok ha
  have IA : PySem.W.InstAt s.heap a { cls := .ref C, dict := none, data := .fields #[.ref t1, .none, .none, .none, .bool false, .none] } C none := ⟨hoa, rfl, rfl, trivial⟩
  obtain ⟨oD, hD1, hD2⟩ : ∃ oD, s.heap.get? C = some oD ∧ oD.data = .cls cd := by
    unfold PySem.W.clsIn at hcd
    split at hcd
    · rename_i c d cd' sl ho
      cases hcd
      exact ⟨_, KX _ _ ho, rfl⟩
    · cases hcd
  refine ks_wpAt_Expr_any (env := envF F fI s0.heap.objs.size) (ks_wpAt_MethodCall (pl := pl) ?_ hev) (by unfold interactive; rw [hk]; rfl) hsw
  refine ks_wpAt_super_base (env := envF F fI s0.heap.objs.size) (f := fI) (cc := F.c) hsu hcl hat rfl (KX _ _ lk) rfl hp rfl (KX _ _ lc) rfl hvs hfile T.top ?_
  rw [har]
  obtain ⟨mb, b1, b2⟩ := I.mod.blt
  refine PySem.W.ks_loadName_global hk hsu (Calls.loadGlobal_builtin (env := envF F fI s0.heap.objs.size) (I.mod.glob.keeps I.bk) hmg (b1.keeps I.bk) ((b2 _ (by decide)).trans (by decide +kernel)) ⟨rfl, ?_⟩)
  refine wpAny_loadName_free hk hcl (by show List.lookup _ F.cl = some cc; rw [ecl]; rfl) ⟨_, KX _ _ lcell, rfl⟩ ?_
  refine wpAny_loadName_local hk hsl hn hm ?_
  obtain ⟨hh, g, d, t, os⟩ := s
  refine ks_wpAny_isType_cls hD1 hD2 ⟨rfl, ?_⟩
  refine ks_wpAny_call_super hD1 hD2 hoa rfl (fun c e => by cases e) (PySem.W.looks_mroIn KX hmro) (fun h' e1 k1 => ?_)
  have I1 : Inv (scx P w K mg base p F fI A outer s0 H0 E0) [] σ H ⟨h', g, d, t, os⟩ := I.kept (t' := t) (h' := h') k1
  have KX1 : K.In h' := I1.kIn
  obtain ⟨t2, hoa1⟩ := exo_at I1.hok ha
  have IA1 : PySem.W.InstAt h' a { cls := .ref C, dict := none, data := .fields #[.ref t2, .none, .none, .none, .bool false, .none] } C none := ⟨hoa1, rfl, rfl, trivial⟩
  have hI : PySem.W.Looks (model P w) h' (isInstance (.ref a) (.type "ValueError")) true := IA1.type.andThen (PySem.W.looks_subIn KX1 T.ve)
  have hsu2 : PySem.W.alongIn K "__init__" ((cd.mro.dropWhile (· != .ref C)).drop 1) = some (some (.builtin "ValueError.__init__")) := by
    have z := T.su
    unfold PySem.W.ks_superIn at z
    rw [hcd] at z
    exact z
  refine PySem.W.kxs_getMethod PySem.W.kxs_ValueError e1 (PySem.W.looks_opaque KX1 T.op) (l₀ := cd.mro) ?_ rfl KX1 hsu2 hI (PySem.W.ks_ne KX1 IA1 hcd) (by decide +kernel) ?_
  · exact fun A Q E s k q => wpAny_bind ((PySem.W.looks_clsIn KX1 hcd) A _ E s k (wpAny_pure q))
  have k2 : ∀ b o, h'.get? b = some o → (h'.push (PySem.W.kxs_mw "ValueError.__init__" a)).get? b = some o := fun b o e => Heap.get?_push_of_some _ e
  have hmw : (h'.push (PySem.W.kxs_mw "ValueError.__init__" a)).get? h'.objs.size = some (PySem.W.kxs_mw "ValueError.__init__" a) := Heap.get?_push_at rfl rfl
  have I2 : Inv (scx P w K mg base p F fI A outer s0 H0 E0) [] σ H ⟨h'.push (PySem.W.kxs_mw "ValueError.__init__" a), g, d, t + 1, os⟩ := I1.kept (t' := t + 1) k2
  have I3 : Inv (scx P w K mg base p F fI A outer s0 H0 E0) [(h'.objs.size, PySem.W.kxs_mw "ValueError.__init__" a)] σ H ⟨h'.push (PySem.W.kxs_mw "ValueError.__init__" a), g, d, t + 1, os⟩ := I2.pins_of fun q hq => by
    obtain rfl : q = (h'.objs.size, PySem.W.kxs_mw "ValueError.__init__" a) := by simpa using hq
    exact ⟨hmw, I1.hok.fresh (Nat.le_refl _), fun z => absurd I1.lt (by rw [← z]; exact Nat.lt_irrefl _), I1.nofs (Nat.le_refl _), fun v z => by cases z⟩
  refine PySem.W.kxs_callWith (i := "ValueError.__init__") (x := a) (by rw [hst]; rfl) ?_
  rw [hst]
  refine Calls.evalArgs_plain ?_
  have hpa : PA (scx P w K mg base p F fI A outer s0 H0 E0) [e] (tCons te tNil) := pa_cons he pa_nil hst
  have hr := hpa.run p3 [(h'.objs.size, PySem.W.kxs_mw "ValueError.__init__" a)] _ σ H (fun vs H1 => H1 = H ∧ vs.length = 1) I3
  rw [show starEach [e] (scx P w K mg base p F fI A outer s0 H0 E0).env = (false, eval e (envF F fI s0.heap.objs.size)) :: starEach [] (envF F fI s0.heap.objs.size) from hst] at hr
  refine wpAny_mono (hr ?_) (fun us s3 ⟨vs', H3, I4, rv, eH, el⟩ => ?_) (fun _ _ z => z)
  · show te σ H fun x H1 => H1 = H ∧ [x].length = 1
    exact hte
  · subst eH
    have pn := I4.pin (h'.objs.size, PySem.W.kxs_mw "ValueError.__init__" a) (List.mem_append_right _ List.mem_cons_self)
    refine ⟨pn.1, ?_⟩
    refine call_mw T.ox I4 ha pn.1 (by show us.length ≤ _; rw [← rv.length, el, sizeLine_eq]; decide) fun s' J => ?_
    exact h s' (J.pins_of (pins' := []) fun q hq => by cases hq)
structure SupW (F : NF) (p f : Str) (e : Expr) : Prop where
  sc : NScope ["self", p, "__class__"] ["self", p] ["__class__"] F.scope
  self_ : (F.params.posonlyargs ++ F.params.args).head?.map (·.arg) = some "self"
  su : F.scope.names.lookup ("super" : Str) = some .globalImplicit
  body : ∃ p0 p1 p2 p3 p4 q1 q2 q3 q4, F.body = [.Expr (.Call (.Attribute (.Call (.Name "super" p0) [] [] p1) "__init__" p2) [e] [] p3) p4, .Assign [.Attribute (.Name "self" q1) f q2] (.Name p q3) q4] ∧
    ∀ fI L : Addr, ∃ pl : Sem Bool, eval (.Call (.Attribute (.Call (.Name "super" p0) [] [] p1) "__init__" p2) [e] [] p3) (envF F fI L) = (do
      let ov ← attributeBase (.Call (.Name "super" p0) [] [] p1) "__init__" (envF F fI L) (eval (.Call (.Name "super" p0) [] [] p1) (envF F fI L))
      standAt p2.atName
      let (f, first) ← holding [ov] (getMethod ov "__init__" pl)
      callWith p3 f first (backTo p3 (starEach [e] (envF F fI L))) [])
  dbg : (p == ("__debug__" : Str)) = false ∧ (p == ("__classdict__" : Str)) = false
  st : ∀ fI L : Addr, starEach [e] (envF F fI L) = (false, eval e (envF F fI L)) :: starEach [] (envF F fI L)
  sw : ∀ (fI L : Addr) (p0 p1 p2 p3 p4 : Pos), swapsWith (.Call (.Attribute (.Call (.Name "super" p0) [] [] p1) "__init__" p2) [e] [] p3) none p4.line (envF F fI L) = pure false
  sw2 : ∀ (fI L : Addr) (q1 q2 q3 q4 : Pos), swapsWith (.Name p q3) (some (.Attribute (.Name "self" q1) f q2)) q4.line (envF F fI L) = pure false
theorem sup_ok {ok : V → Bool} {e : Expr} {te : TE} {k : Nat} (T : SupC P K C fI f) (TF : SupF P K C fI fd F) (Wd : SupW F p f e) (hmg : mg "super" = none)
    (he : ∀ (A : Around) (outer : List PySem.Env) (s0 : Shared) (H0 : Hp) (E0 : XK), PE (scx P w K mg base p F fI A outer s0 H0 E0) e te)
    (hte : ∀ (σ : L2.St) (H : Hp) (x : V), σ[1]? = some (some x) → ok x = true → te σ H fun v H1 => H1 = H ∧ [v].length = 1) :
    FnOk P w K mg base (L2.CX P w) (k + 1) fI fd ["self", p] (spSup K C f ok) := by
  refine ⟨fun vs H Q E h => h.1, fun A outer s H args us vs Q E hr e0 hb r hsp => ?_⟩
  obtain ⟨hl, a, x, rfl, hok, ha, hq⟩ := hsp
  obtain ⟨oc, od, doc, pm, ctv, osl, efd, lk⟩ := TF.ex
  have S := Wd.sc
  have KX : K.In s.heap := e0.mod.kin.keeps fun b o e => (e0.bs b o e).1
  have lim : s.heap.NoLimit := e0.mod.nolimit.keeps fun b o e => (e0.bs b o e).1
  obtain ⟨cc, ccl2, cld, csl, ecl, lcell⟩ := TF.cell
  have CA : CellsAt F.cl ["__class__"] [none] s.heap H := by
    refine ⟨rfl, fun y c e1 => ?_, fun x y c e1 e2 => ?_, fun i y e1 => ?_⟩
    · rw [ecl] at e1
      have ec : c = cc := by
        by_cases hy : (y == ("__class__" : Str)) = true
        · simp only [List.lookup, hy] at e1
          exact (Option.some.inj e1).symm
        · simp only [List.lookup, (Bool.not_eq_true _).mp hy] at e1
          cases e1
      subst ec
      have z := e0.bs _ _ (e0.mod.kin _ _ lcell)
      exact ⟨z.2, _, _, z.1, rfl⟩
    · rw [ecl] at e1 e2
      have one : ∀ {z : Str} {c : Addr}, List.lookup z [(("__class__" : Str), cc)] = some c → z = "__class__" := fun {z c} e => by
        by_cases hy : (z == ("__class__" : Str)) = true
        · exact beq_iff_eq.mp hy
        · simp only [List.lookup, (Bool.not_eq_true _).mp hy] at e
          cases e
      rw [one e1, one e2]
    · have ey : y = "__class__" := by
        cases i with
        | zero => simpa using e1.symm
        | succ i => simp at e1
      subst ey
      refine ⟨cc, by rw [ecl]; rfl, fun v e2 => ?_⟩
      cases i with
      | zero => simp at e2
      | succ i => simp at e1
  have efd' := efd
  subst efd
  refine ks_codeAny_call_defAt (body := F.body) hr.depth (KX _ _ lk) rfl lim (PySem.W.codeRec_of KX TF.cd) rfl hb S.nocell (fun ⟨n, _⟩ hy => S.par n (List.of_mem_zip hy).1) (fun h₁ hns hk₁ => ?_) S.co S.gen S.kind
  have I : Inv (scx P w K mg base p F fI A outer s H E) [] (startF ["self", p, "__class__"] [V.ref a, x] [none]) H { s with heap := h₁, toks := s.toks + ((["self", p] : List Str).zip us).length } := inv_startN S hr.hd e0 (by simp) r CA hns hk₁
  show _root_.PySem.wpAt (model P w) (A.deeper (envF F fI s.heap.objs.size)) (.func F.body (envF F fI s.heap.objs.size)) (execs F.body (envF F fI s.heap.objs.size)) _ _ _
  obtain ⟨p0, p1, p2, p3, p4, q1, q2, q3, q4, hbody, hev⟩ := Wd.body
  have hgo : ∀ (bd : List Stmt), bd = F.body → _root_.PySem.wpAt (model P w) (A.deeper (envF F fI s.heap.objs.size)) (.func F.body (envF F fI s.heap.objs.size)) (execs bd (envF F fI s.heap.objs.size)) (fun f s' => CR (L2.CX P w) outer P w H s Q E (.ok (.ret (match f with | .ret v => v | _ => .none))) s')
      (fun e s' => wpAny (model P w) (A.deeper (envF F fI s.heap.objs.size)) (leaving (envF F fI s.heap.objs.size) e) (fun _ s'' => CR (L2.CX P w) outer P w H s Q E (.error e) s'') (fun e' s'' => CR (L2.CX P w) outer P w H s Q E (.error e') s'') s')
      { s with heap := h₁, toks := s.toks + ((["self", p] : List Str).zip us).length } := by
    intro bd ebd
    rw [hbody] at ebd
    subst ebd
    refine ks_wpAt_execs_cons ?_
    refine sup_stmt T TF Wd.self_ (S.par "self" (by simp)) Wd.su (S.frk "__class__" (by simp)) hmg (he A outer s H E) I rfl ha (hte [some (.ref a), some x, none] H x rfl hok) S.kind (Wd.st _ _) (Wd.sw _ _ _ _ _ _ _) (hev _ _) (fun s' I' => ?_)
    show _root_.PySem.wpAt _ _ _ (execs [_] _) _ _ _
    refine wpAt_of_wpAny ?_
    have hs2 : PSs (scx P w K mg base p F fI A outer s H E) [.Assign [.Attribute (.Name "self" q1) f q2] (.Name p q3) q4] _ := pss_one (ps_ost (pe_var (i := 0) rfl (.inl (S.par "self" (by simp)))) (pe_var (i := 1) rfl (.inl (S.par p (by simp))) Wd.dbg.1 Wd.dbg.2) (Wd.sw2 _ _ _ _ _ _))
    refine wpAny_mono (hs2.run [] s' _ H { nx := fun _ H' => Q .non H', rt := Q } I' ?_) (fun fl s2 hs => ?_) (fun e s2 hs => hs)
    · exact ⟨x, rfl, .ref a, rfl, a, C, rfl, T.ox, T.noF, .inl ⟨ha, fun dx n ne => hq dx n ne⟩⟩
    · have fin : ∀ {σ' : L2.St} {H' : Hp} {v : V} {u : Value}, Inv (scx P w K mg base p F fI A outer s H E) [] σ' H' s2 → L2.RelV v u → Q v H' → CE outer P w H s Q u s2 :=
        fun {σ' H' v u} J rv q => ⟨v, H', J.os, J.bare, J.base, J.hok, rv, q⟩
      cases fl with
      | ret u =>
        obtain ⟨v, σ', H', J, rv, q⟩ := hs
        exact fin J rv q
      | next =>
        obtain ⟨σ', H', J, q⟩ := hs
        exact fin (v := V.non) (u := Value.none) J rfl q
      | brk =>
        obtain ⟨_, _, _, q⟩ := hs
        exact False.elim q
      | cont =>
        obtain ⟨_, _, _, q⟩ := hs
        exact False.elim q
  exact hgo F.body rfl
end
end DL
namespace DL
open PySem L2 PyProof.Rows
def dRaise (C : Str) : Env → Fl := fun ρ => .ex ⟨C, []⟩ ρ
def stRaise (C f : Str) (ok : At → Bool) (d : D) (ρ : Env) : Fl := match d with
  | .a x => if ok x = true then .ex ⟨C, [(f, x)]⟩ ρ else .st
  | _ => .st
structure ExP (K : PySem.W.Frag) (C : Addr) : Prop where
  exc : PySem.W.excIn K C He.veBase "ValueError.__new__" = true
  keep : PySem.W.keepIn K (.ref C) = true
  sub : PySem.W.subIn K (.ref C) (.type "BaseException") = some true
  typ : PySem.W.typeIn K (.ref C) = some (.type "type")
structure ExS (P : Program) (w : World) (K : PySem.W.Frag) (mg : Str → Option Value) (base : Heap) (C : Addr) (f : Str) (ok : At → Bool) : Prop where
  ex : ∃ (fI : Addr) (fd : FuncData) (p : Str) (okV : V → Bool), SupC P K C fI f ∧ FnOk P w K mg base (L2.CX P w) 1 fI fd ["self", p] (spSup K C f okV) ∧ Binds K fd ["self", p] [] ∧ ∀ x : At, ok x = true → okV x.v = true
section
variable {X : Cx} {cA : Str → Addr} {W : WX} {k : Option Nat} {fa : Env → Out D} {e : Expr} {pos pos' : Pos}
theorem ds_raise {C m : Str} {j : Nat} {p p2 : Pos} (hc : X.calm = true) (tk : Takes X W) (q : ExP X.K (cA C)) (hg : Gl X C) (gC : X.mg C = some (.ref (cA C))) (hdb : (C == ("__debug__" : Str)) = false := by kernel_rfl) :
    DS X cA W k (dRaise C) (.Raise (some (.Call (.Name C p) [.Constant (.str m) j p2] [] pos)) none pos') :=
  ds_of (ps_raise hc tk (pmk_own PySem.F.excBase_ValueError q.exc gC q.keep (raises_own q.sub q.typ) hg hdb)) fun T σ H Z L ρ r w pp => pp _ _ _ H Z L r w ⟨rfl, .inl ⟨rfl, rfl⟩⟩ Fr.refl Pin.refl
theorem new_xd {K : PySem.W.Frag} {H : Hp} {Z : ZS} {ρ : Env} {σ : L2.St} {L : FP} {dx : Addr} {fs : List (Str × V)} (w : Wf H Z L) (r : RelL K cA H Z ρ σ L) (hn : H dx = none) :
    RelL K cA (upd H dx (.xd fs)) (ZU Z [dx]) ρ σ L ∧ Wf (upd H dx (.xd fs)) (ZU Z [dx]) L ∧ Fr H Z L (upd H dx (.xd fs)) (ZU Z [dx]) L := by
  refine ⟨relL_mono zu_sub (fun a o _ e => keep_new hn a o e) r, ?_, ?_⟩
  · exact (wf_new w hn (relL_trk r) : Wf (upd H dx (.xd fs)) Z ([dx] ++ L)).freeze fun a m => ⟨.xd fs, by
      have : a = dx := by simpa using m
      subst this; exact upd_same⟩
  · exact Fr.freeze (fp := [dx]) (M := L) (fr_new hn)
theorem ds_raiseV {C f : Str} {ok : At → Bool} {p : Pos} (hc : X.calm = true) (tk : Takes X W) (q : ExS X.prog X.w X.K X.mg X.base (cA C) f ok) (hr : Room 2 X.A) (hg : Gl X C) (gC : X.mg C = some (.ref (cA C))) (he : DE X cA W fa e)
    (hdb : (C == ("__debug__" : Str)) = false := by kernel_rfl) (hst : starEach [e] X.env = (false, eval e X.env) :: starEach [] X.env := by kernel_rfl) :
    DS X cA W k (dBind fa (stRaise C f ok)) (.Raise (some (.Call (.Name C p) [e] [] pos)) none pos') := by
  obtain ⟨fI, fd, pn, okV, T, F1, hb, hok⟩ := q.ex
  refine ds_of (ps_raise hc tk (pmk_oex (k := 1) T.ox T.iC T.tI F1 hr hb .nil passL hg gC (pa_cons he pa_nil hst) hdb hst (by rfl))) fun D σ H Z L ρ r w p => ?_
  show TEof X.K cA W fa σ H fun v H1 => _
  refine bind_te r w p fun d ρ1 v H1 Z1 L1 fp hd r1 w1 h1 F1 p => ?_
  unfold stRaise at p
  split at p
  · rename_i x
    split at p
    · rename_i hx
      obtain ⟨e1, e2⟩ := h1
      subst e1 e2
      refine ⟨by simp, fun a ha => ⟨rfl, a, x.v, rfl, hok x hx, upd_same, fun dx hdx hne => ⟨rfl, dx, [(f, x.v)], upd_same, ?_, ?_, ?_⟩⟩⟩
      · rw [upd_ne hne, upd_same]
      · rw [upd_ne hne] at hdx
        exact hdx
      · rw [upd_ne hne] at hdx
        have eH : upd (del (upd (upd (upd H1 a (exo a (cA C) none)) dx (exd dx [(f, x.v)])) a (exo a (cA C) (some dx))) a) dx (.xd [(f, x.v)]) = upd H1 dx (.xd [(f, x.v)]) := by
          funext b
          by_cases h1 : b = dx
          · subst h1; rw [upd_same, upd_same]
          · rw [upd_ne h1, upd_ne h1]
            by_cases h2 : b = a
            · subst h2; rw [del_same, ha]
            · rw [del_ne h2, upd_ne h2, upd_ne h1, upd_ne h2]
        rw [eH]
        obtain ⟨r2, w2, F2⟩ := new_xd (fs := [(f, x.v)]) w1 r1 hdx
        exact p _ _ _ _ _ _ r2 w2 ⟨rfl, .inr ⟨by simp, dx, rfl, .inr (by simp), upd_same⟩⟩ (F1.trans F2) Pin.refl
    · exact p.elim
  · exact p.elim
end
inductive HdX (X : Cx) : List ExceptHandler → List (Value × (Addr → Value → Option Addr → TS)) → Prop
  | nil : HdX X [] []
  | cons {x : Str} {c : Value} {ts : Addr → Value → Option Addr → TS} {b₀ : Stmt} {suite : List Stmt} {np pos' : Pos} {hds : List ExceptHandler} {l : List (Value × (Addr → Value → Option Addr → TS))} (hc : Names X x c)
      (hsu : ∀ (a : Addr) (oe : Obj) (cls : Value) (d : Option Addr) (pn : List (Addr × Obj)), Zc cls d oe → (∃ vs, oe.data = .fields vs) → PSs (X.suite a ((a, oe) :: pn)) (b₀ :: suite) (ts a cls d)) (r : HdX X hds l) :
      HdX X (.ExceptHandler (some (.Name x np)) none (b₀ :: suite) pos' :: hds) ((c, ts) :: l)
  | as {x n : Str} {i : Nat} {c : Value} {ts t0 : Addr → Value → Option Addr → TS} {b₀ : Stmt} {suite : List Stmt} {np pos' : Pos} {hds : List ExceptHandler} {l : List (Value × (Addr → Value → Option Addr → TS))} (hc : Names X x c) (hi : X.N[i]? = some n) (hln : X.env.kindOf n = some .local)
      (hsu : ∀ (a : Addr) (oe : Obj) (cls : Value) (d : Option Addr) (pn : List (Addr × Obj)), Zc cls d oe → (∃ vs, oe.data = .fields vs) → PSs (X.suite a ((a, oe) :: pn)) (b₀ :: suite) (t0 a cls d))
      (imp : ∀ a cls d D σ H, ts a cls d D σ H → t0 a cls d { nx := fun σ' H' => D.nx (σ'.set i none) H', rt := D.rt, bk := fun σ' H' => D.bk (σ'.set i none) H', ct := fun σ' H' => D.ct (σ'.set i none) H' } (σ.set i (some (.ref a))) H) (r : HdX X hds l) :
      HdX X (.ExceptHandler (some (.Name x np)) (some n) (b₀ :: suite) pos' :: hds) ((c, ts) :: l)
section
variable {X : Cx} {body : List Stmt} {h₀ : ExceptHandler} {hds : List ExceptHandler} {l : List (Value × (Addr → Value → Option Addr → TS))} {pos : Pos} {tb : WX → TS} {Wout : WX}
end
abbrev Hd := Str × List (Str × Bool) × (Exn → Env → Fl)
def noEx : Fl → Fl
  | .ex _ _ => .st
  | r => r
def dCatch : List Hd → Exn → Env → Fl
  | [], e, ρ => .ex e ρ
  | (_, m, h) :: r, e, ρ => match m.lookup e.c with
    | some true => noEx (h e ρ)
    | some false => dCatch r e ρ
    | none => .st
def dTry (b : Env → Fl) (hs : List Hd) : Env → Fl := fun ρ => match b ρ with
  | .ex e ρ1 => dCatch hs e ρ1
  | r => r
section
variable (K : PySem.W.Frag) (cA : Str → Addr)
def tsD (k : Option Nat) (h : Exn → Env → Fl) : Addr → Value → Option Addr → TS := fun a cls d D σ H => ∃ ex Z L ρ, RelL K cA H Z ρ σ L ∧ Wf H Z L ∧ ExR cA H Z ex cls d ∧ PostS K cA WN k σ H Z L D (h ex ρ)
end
def TSE (cA : Str → Addr) (i : Nat) (a : Addr) (cls : Value) (d : Option Addr) (g : Exn → Option At) : TE := fun σ H Q => ∃ ex x Z, Wf H Z [] ∧ σ[i]? = some (some (V.ref a)) ∧ ExR cA H Z ex cls d ∧ g ex = some x ∧ ∀ H' Z', Wf H' Z' [] → Fr H Z [] H' Z' [] → Q x.v H'
def hRet (i : Nat) (g : Exn → Option At) : Exn → Env → Fl := fun ex ρ => match g ex with
  | some x => if i < ρ.length then .rt (.a x) (ρ.set i none) else .st
  | none => .st
def Matches (K : PySem.W.Frag) (cA : Str → Addr) (C : Str) (m : List (Str × Bool)) : Prop := ∀ c b, m.lookup c = some b → PySem.W.exmOne K (.ref (cA c)) (.ref (cA C)) = some b
inductive DHs (X : Cx) (cA : Str → Addr) (k : Option Nat) : List ExceptHandler → List Hd → Prop
  | nil : DHs X cA k [] []
  | cons {C : Str} {m : List (Str × Bool)} {f : Env → Fl} {b₀ : Stmt} {suite : List Stmt} {np pos' : Pos} {hds : List ExceptHandler} {l : List Hd} (hc : Names X C (.ref (cA C))) (hm : Matches X.K cA C m)
      (hsu : ∀ (a : Addr) (oe : Obj) (cls : Value) (d : Option Addr) (pn : List (Addr × Obj)), Zc cls d oe → (∃ vs, oe.data = .fields vs) → DSs (X.suite a ((a, oe) :: pn)) cA WN k f (b₀ :: suite)) (r : DHs X cA k hds l) :
      DHs X cA k (.ExceptHandler (some (.Name C np)) none (b₀ :: suite) pos' :: hds) ((C, m, fun _ => f) :: l)
  | as {C n : Str} {i : Nat} {m : List (Str × Bool)} {g : Exn → Option At} {e : Expr} {np pos' rp : Pos} {hds : List ExceptHandler} {l : List Hd} (hc : Names X C (.ref (cA C))) (hm : Matches X.K cA C m) (hi : X.N[i]? = some n) (hln : X.env.kindOf n = some .local)
      (hsu : ∀ (a : Addr) (oe : Obj) (cls : Value) (d : Option Addr) (pn : List (Addr × Obj)), Zc cls d oe → (∃ vs, oe.data = .fields vs) → PE (X.suite a ((a, oe) :: pn)) e (TSE cA i a cls d g)) (r : DHs X cA k hds l) :
      DHs X cA k (.ExceptHandler (some (.Name C np)) (some n) [.Return (some e) rp] pos' :: hds) ((C, m, hRet i g) :: l)
section
variable {X : Cx} {cA : Str → Addr} {k : Option Nat} {W : WX}
theorem DHs.hdx : ∀ {hds : List ExceptHandler} {l : List Hd}, DHs X cA k hds l → HdX X hds (l.map fun q => (.ref (cA q.1), tsD X.K cA k q.2.2))
  | _, _, .nil => .nil
  | _, _, .cons hc hm hsu r => by
    refine .cons hc (fun a oe cls d pn hz hf => PSs.imp (hsu a oe cls d pn hz hf) fun D σ H ⟨ex, Z, L, ρ, r1, w1, x1, p⟩ => ⟨Z, L, ρ, r1, w1, p⟩) r.hdx
  | _, _, .as (i := i) hc hm hi hln hsu r => by
    refine .as (i := i) hc hi hln (fun a oe cls d pn hz hf => pss_one (ps_ret (hsu a oe cls d pn hz hf))) (fun a cls d D σ H ⟨ex, Z, L, ρ, r1, w1, x1, p⟩ => ?_) r.hdx
    dsimp only at p
    unfold hRet at p
    split at p
    · rename_i x hx
      split at p
      · rename_i hil
        rw [← relL_len r1] at hil
        refine ⟨ex, x, Z, wf0 w1, by rw [List.getElem?_set_self hil], x1, hx, fun H' Z' w' F' => ?_⟩
        obtain ⟨r2, w2, F2⟩ := hand0 w1 r1 F' w'
        obtain ⟨L', hs, r3⟩ := relL_none i r2
        exact p _ σ H' Z' L' [] r3 ((w2.less (by simpa using hs)) : Wf H' Z' ([] ++ L')) ⟨rfl, rfl⟩ (F2.less fun y m => by simp at m ⊢; exact hs.subset m) Pin.refl
      · exact p.elim
    · exact p.elim
end
end DL
namespace DL
open PySem L2 PyProof.Rows NdefX
def sF (C f : Str) : Exn → Option At := fun ex => if ex.c = C then ex.fs.lookup f else none
section
variable {X : Cx} {cA : Str → Addr} {i : Nat} {a : Addr} {cls : Value} {d : Option Addr} {g h : Exn → Option At} {e e2 : Expr} {pos : Pos}
end
abbrev FnC : Type := Option (Str × Str × Arguments × FuncBody × Scope × Addr × Addr)
def fnC (K : PySem.W.Frag) (p : Str × Option Str) : FnC := match K.lookup (He.fAd K p) with
  | some ⟨_, _, .func fd, _⟩ => some (fd.name, fd.qualname, fd.params, fd.body, fd.scope, fd.globals, fd.builtins)
  | _ => none
def oexB (K : PySem.W.Frag) (C : Addr) : Bool := (match K.lookup C with
  | some ⟨.type "type", _, .cls cd, sl⟩ => (match cd.mro, sl.toList with
    | .ref C' :: bm, [_, _, _, _, some (.builtin n), _] => C' == C && (n == "ValueError.__new__" && (!cd.hasDel && (cd.hasDict && PySem.HandSPX.refsVE bm)))
    | _, _ => false)
  | _ => false) && (decide (PySem.W.findIn K (.ref C) "__setattr__" = some (some (.builtin "object.__setattr__"))) && (decide (PySem.W.subIn K (.ref C) (.type "BaseException") = some true) && (decide (PySem.W.typeIn K (.ref C) = some (.type "type")) && PySem.W.keepIn K (.ref C))))
theorem oexB_ok {K : PySem.W.Frag} {C : Addr} (h : oexB K C = true) : OexC K C := by
  unfold oexB at h
  rw [Bool.and_eq_true] at h
  obtain ⟨h0, h⟩ := h
  simp only [Bool.and_eq_true, decide_eq_true_eq] at h
  obtain ⟨h1, h2, h3, h4⟩ := h
  refine ⟨?_, h1, h2, h3, h4⟩
  split at h0
  · rename_i dd cd sl ho
    split at h0
    · rename_i C' bm k0 k1 k2 k3 n k5 hm hs
      simp only [Bool.and_eq_true, beq_iff_eq, Bool.not_eq_true'] at h0
      obtain ⟨rfl, rfl, hdel, hdict, hve⟩ := h0
      obtain ⟨nm, bs, mro, ns, qn, hd, sn, sub, ab, col, del⟩ := cd
      dsimp only at hm hdel hdict
      subst hm hdel hdict
      have hsl : sl = #[k0, k1, k2, k3, some (.builtin "ValueError.__new__"), k5] := by
        obtain ⟨l⟩ := sl
        simp only at hs
        rw [hs]
      subst hsl
      exact ⟨nm, qn, ns, bs, bm, sn, sub, ab, col, dd, k0, k1, k2, k3, k5, ho, hve⟩
    · cases h0
  · cases h0
def supB (file : Str) (K : PySem.W.Frag) (C fI : Addr) (f : Str) : Bool := oexB K C && (decide (PySem.W.findIn K (.ref C) "__init__" = some (some (.ref fI))) && (decide (PySem.W.typeIn K (.ref fI) = some (.type "function")) && (decide (PySem.W.findIn K (.ref C) f = some none) &&
  ((PySem.W.clsIn K C).isSome && (decide (PySem.W.mroIn K C (.ref C) = some true) && (decide (PySem.W.ks_superIn K C C "__init__" = some (some (.builtin "ValueError.__init__"))) && (decide (PySem.W.subIn K (.ref C) (.type "ValueError") = some true) &&
  (decide (PySem.W.nsIn K cStatics "thirdparty.any" = some none) && (match K.lookup fI with
    | some ⟨_, _, .func fd, _⟩ => (match fd.defaults, fd.kwdefaults, fd.annotations, fd.code, fd.closure with
      | .none, .none, none, .ref c, [(x, cc)] => PySem.W.codeIn K (.ref c) fd.qualname && (decide (x = "__class__") && ((match K.lookup cc with
        | some ⟨_, _, .cell (some (.ref D)), _⟩ => D == C
        | _ => false) && (match K.lookup c with
        | some ⟨_, _, .fields vs, _⟩ => (match (vs[2]? : Option Value) with
          | some (Value.str z _) => file == z
          | _ => false)
        | _ => false)))
      | _, _, _, _, _ => false)
    | _ => false)))))))))
theorem supB_ok {P : Program} {file : Str} {K : PySem.W.Frag} {C : Addr} {f : Str} {p : Str × Option Str} {name qual : Str} {params : Arguments} {body : List Stmt} {scope : Scope} (h : supB file K C (He.fAd K p) f = true) (e : fnC K p = some (name, qual, params, .stmts body, scope, mainGlobals, builtinsNs))
    (hfile : P.main.file = file) (htop : (P.main.scope.names.lookup ("super" : Str)).isSome = false) :
    ∃ fd cl c, SupC P K C (He.fAd K p) f ∧ SupF P K C (He.fAd K p) fd ⟨name, qual, params, body, scope, cl, c⟩ := by
  unfold supB at h
  simp only [Bool.and_eq_true, decide_eq_true_eq] at h
  obtain ⟨h0, h1, h2, h3, h4, h5, h6, h7, h8, h9⟩ := h
  have ox := oexB_ok h0
  obtain ⟨cd, hcd⟩ := Option.isSome_iff_exists.mp h4
  have SC : SupC P K C (He.fAd K p) f := ⟨ox, ox.kC, h1, h2, h3, ⟨cd, hcd, h5⟩, h6, h7, h8, htop⟩
  unfold fnC at e
  cases q : K.lookup (He.fAd K p) with
  | none => rw [q] at h9; cases h9
  | some o =>
    obtain ⟨oc, od, dt, osl⟩ := o
    rw [q] at h9 e
    cases dt with
    | func fd =>
      obtain ⟨n1, n2, n3, n4, n5, n6, n7, n8, n9, n10, n11, n12, n13, n14, n15⟩ := fd
      dsimp only at h9 e
      simp only [Option.some.injEq, Prod.mk.injEq] at e
      obtain ⟨e1, e2, e3, e4, e5, e6, e7⟩ := e
      subst e1 e2 e3 e4 e5 e6 e7
      split at h9
      · rename_i c x cc
        simp only [Bool.and_eq_true, decide_eq_true_eq] at h9
        obtain ⟨k1, rfl, k3, k4⟩ := h9
        refine ⟨_, [("__class__", cc)], c, SC, ⟨oc, od, n10, n11, n14, osl, rfl, q⟩, k1, ?_, ?_⟩
        · split at k4
          · rename_i a1 a2 vs a3 hc
            split at k4
            · rename_i z tf hz
              exact ⟨_, _, _, _, z, tf, hc, hz, by rw [hfile]; exact k4⟩
            · cases k4
          · cases k4
        · split at k3
          · rename_i a1 a2 D a3 hc
            have e := beq_iff_eq.mp k3
            subst e
            exact ⟨cc, _, _, _, rfl, hc⟩
          · cases k3
      · cases h9
    | _ => cases h9
structure ExD where
  cls : Str
  fld : Str
  name : Str
  qual : Str
  params : Arguments
  body : List Stmt
  scope : Scope
def ExD.val (d : ExD) : FnC := some (d.name, d.qual, d.params, .stmts d.body, d.scope, mainGlobals, builtinsNs)
def ExD.ok (file : Str) (K : PySem.W.Frag) (d : ExD) : Bool := supB file K (He.ga K d.cls) (He.fAd K (d.cls, some "__init__")) d.fld
abbrev Fy := PySem.W.Frag → Bool
abbrev AlY := He.AlD × Bool × List FnC
def obsY (file : Str) (fa : List He.Fa) (fn : List He.DefD) (es : List ExD) (ys : List Fy) (K : PySem.W.Frag) : AlY := (He.obsD fa fn K, (ys.all fun y => y K) && es.all fun d => d.ok file K, es.map fun d => fnC K (d.cls, some "__init__"))
def valY (fn : List He.DefD) (es : List ExD) : AlY := (He.valD fn, true, es.map ExD.val)
def frY (g : Addr → Option Obj) (n : Nat) : PySem.W.Frag := He.frG g (cStatics :: He.asD g n)
def obsYG (n : Nat) (file : Str) (fa : List He.Fa) (fn : List He.DefD) (es : List ExD) (ys : List Fy) (g : Addr → Option Obj) : AlY := obsY file fa fn es ys (frY g n)
def SaysY (file : Str) (fa : List He.Fa) (fn : List He.DefD) (es : List ExD) (ys : List Fy) (K : PySem.W.Frag) : Prop := obsY file fa fn es ys K = valY fn es
def hookY (n : Nat) (file : Str) (fa : List He.Fa) (fn : List He.DefD) (es : List ExD) (ys : List Fy) : PySem.W.Hook where
  α := AlY
  obs := fun s => obsYG n file fa fn es ys s.heap.get?
  val := fun _ => valY fn es
  says := fun _ h => ∃ K : PySem.W.Frag, K.In h ∧ SaysY file fa fn es ys K
  of := fun _ _ e => ⟨_, He.frG_in, e⟩
  keeps := fun _ _ _ ⟨K, hK, c⟩ k => ⟨K, PySem.W.Frag.In.keeps hK k, c⟩
theorem obsYG_eq {n : Nat} {file : Str} {fa : List He.Fa} {fn : List He.DefD} {es : List ExD} {ys : List Fy} {g : Addr → Option Obj} {s : Shared} (h : ∀ a, g a = s.heap.get? a) : obsYG n file fa fn es ys g = (hookY n file fa fn es ys).obs s := by
  have e : g = s.heap.get? := funext h
  rw [e] <;> rfl
section
variable {file : Str} {fa : List He.Fa} {fn : List He.DefD} {es : List ExD} {ys : List Fy} {K : PySem.W.Frag}
theorem SaysY.d (h : SaysY file fa fn es ys K) : He.SaysD fa fn K := congrArg (fun z : AlY => z.1) h
theorem SaysY.y (h : SaysY file fa fn es ys K) (i : Nat) {y : Fy} (e : ys[i]? = some y) : y K = true := by
  have c : ((ys.all fun y => y K) && es.all fun d => d.ok file K) = true := congrArg (fun z : AlY => z.2.1) h
  rw [Bool.and_eq_true] at c
  exact List.all_eq_true.mp c.1 y (List.mem_of_getElem? e)
theorem SaysY.e (h : SaysY file fa fn es ys K) (i : Nat) {d : ExD} (e : es[i]? = some d) {P : Program} (hfile : P.main.file = file) (htop : (P.main.scope.names.lookup ("super" : Str)).isSome = false) :
    ∃ fd cl c, SupC P K (He.ga K d.cls) (He.fAd K (d.cls, some "__init__")) d.fld ∧ SupF P K (He.ga K d.cls) (He.fAd K (d.cls, some "__init__")) fd ⟨d.name, d.qual, d.params, d.body, d.scope, cl, c⟩ := by
  have c : ((ys.all fun y => y K) && es.all fun d => d.ok file K) = true := congrArg (fun z : AlY => z.2.1) h
  rw [Bool.and_eq_true] at c
  have c2 := List.all_eq_true.mp c.2 d (List.mem_of_getElem? e)
  have c3 : es.map (fun d => fnC K (d.cls, some "__init__")) = es.map ExD.val := congrArg (fun z : AlY => z.2.2) h
  have e2 : (es.map fun d => fnC K (d.cls, some "__init__"))[i]? = (es.map ExD.val)[i]? := by rw [c3]
  rw [List.getElem?_map, List.getElem?_map, e] at e2
  exact supB_ok c2 (Option.some.inj e2) hfile htop
end
theorem exS_of {P : Program} {w : World} {K : PySem.W.Frag} {mg : Str → Option Value} {base : Heap} {C fI : Addr} {f p : Str} {ok : At → Bool} {okV : V → Bool} {fd : FuncData} {F : NF} {e : Expr} {te : TE} (T : SupC P K C fI f) (TF : SupF P K C fI fd F) (Wd : SupW F p f e) (hmg : mg "super" = none)
    (he : ∀ (A : Around) (outer : List PySem.Env) (s0 : Shared) (H0 : Hp) (E0 : XK), PE (scx P w K mg base p F fI A outer s0 H0 E0) e te)
    (hte : ∀ (σ : L2.St) (H : Hp) (x : V), σ[1]? = some (some x) → okV x = true → te σ H fun v H1 => H1 = H ∧ [v].length = 1)
    (hb : ∀ (doc pm ctv : Value) (us : List Value), us.length = 2 → bindArgs (F.fd doc pm ctv) ⟨us, []⟩ = pure ((["self", p] : List Str).zip us)) (hok : ∀ x : At, ok x = true → okV x.v = true) : ExS P w K mg base C f ok := by
  obtain ⟨oc, od, doc, pm, ctv, osl, efd, lk⟩ := TF.ex
  refine ⟨fI, fd, p, okV, T, sup_ok T TF Wd hmg he hte, ?_, hok⟩
  subst efd
  exact Binds.all fun us hl => hb doc pm ctv us hl
end DL
namespace DL
open PySem L2 PyProof.Rows NdefX
def supBody (e : Expr) (p f : Str) (p0 p1 p2 p3 p4 q1 q2 q3 q4 : Pos) : List Stmt := [.Expr (.Call (.Attribute (.Call (.Name "super" p0) [] [] p1) "__init__" p2) [e] [] p3) p4, .Assign [.Attribute (.Name "self" q1) f q2] (.Name p q3) q4]
def sup1 (p f : Str) : List Stmt → Bool
  | [.Expr (.Call (.Attribute (.Call (.Name a0 _) [] [] _) a1 ap) [.BinOp (.Constant (.str t) _ _) .Add (.Name a2 _) _] [] cp) _, .Assign [.Attribute (.Name a3 _) a4 _] (.Name a5 _) _] => a0 == "super" && (a1 == "__init__" && (a2 == p && (a3 == "self" && (a4 == f && (a5 == p && (ap.endLine == cp.line && decide (t.length ≤ 1000)))))))
  | _ => false
theorem sup1_ok {p f : Str} {b : List Stmt} (h : sup1 p f b = true) : ∃ t j r1 r2 r3 p0 p1 p2 p3 p4 q1 q2 q3 q4, b = supBody (.BinOp (.Constant (.str t) j r1) .Add (.Name p r2) r3) p f p0 p1 p2 p3 p4 q1 q2 q3 q4 ∧ (p2.endLine == p3.line) = true ∧ t.length ≤ 1000 := by
  unfold sup1 at h
  split at h
  · simp only [Bool.and_eq_true, decide_eq_true_eq] at h
    obtain ⟨h1, h2, h3, h4, h5, h6, h7, h8⟩ := h
    have h1 := beq_iff_eq.mp h1
    have h2 := beq_iff_eq.mp h2
    have h3 := beq_iff_eq.mp h3
    have h4 := beq_iff_eq.mp h4
    have h5 := beq_iff_eq.mp h5
    have h6 := beq_iff_eq.mp h6
    subst h1 h2 h3 h4 h5 h6
    exact ⟨_, _, _, _, _, _, _, _, _, _, _, _, _, _, rfl, h7, h8⟩
  · cases h
def okStr : At → Bool
  | .str s => decide (s.length ≤ 1000)
  | _ => false
def okStrV : V → Bool
  | .str s => decide (s.length ≤ 1000)
  | _ => false
theorem sup_ev {o : Expr} {e : Expr} {env : PySem.Env} {p2 p3 : Pos} (hq : (p2.endLine == p3.line) = true) (h1 : (methodCallForm 1 (backTo p3 (starEach [e] env)) []) = true) (h2 : backToKw p3 (keywordEach [] env) = []) : ∃ pl : Sem Bool, eval (.Call (.Attribute o "__init__" p2) [e] [] p3) env = (do
      let ov ← attributeBase o "__init__" env (eval o env)
      standAt p2.atName
      let (f, first) ← holding [ov] (getMethod ov "__init__" pl)
      callWith p3 f first (backTo p3 (starEach [e] env)) []) := by
  refine ⟨(do return (← importBound o env).getD true), ?_⟩
  have e0 : eval (.Call (.Attribute o "__init__" p2) [e] [] p3) env = (do
    let ov ← attributeBase o "__init__" env (eval o env)
    standAt p2.atName
    methodCall o "__init__" p2 p3 env ov 1 (backTo p3 (starEach [e] env)) (backToKw p3 (keywordEach [] env))) := rfl
  rw [e0, h2]
  unfold methodCall calleeOf methodCallPos
  rw [h1, hq]
  simp
theorem supW_of {F : NF} {p f : Str} {e : Expr} {p0 p1 p2 p3 p4 q1 q2 q3 q4 : Pos} (hsc : nscB ["self", p, "__class__"] ["self", p] ["__class__"] F.scope = true) (hself : (F.params.posonlyargs ++ F.params.args).head?.map (·.arg) = some "self") (hsu : F.scope.names.lookup ("super" : Str) = some .globalImplicit)
    (hd : (p == ("__debug__" : Str)) = false ∧ (p == ("__classdict__" : Str)) = false) (hb : F.body = supBody e p f p0 p1 p2 p3 p4 q1 q2 q3 q4) (st : ∀ fI L : Addr, starEach [e] (envF F fI L) = (false, eval e (envF F fI L)) :: starEach [] (envF F fI L))
    (hl : (p2.endLine == p3.line) = true) (ev : ∀ fI L : Addr, (p2.endLine == p3.line) = true → ∃ pl : Sem Bool, eval (.Call (.Attribute (.Call (.Name "super" p0) [] [] p1) "__init__" p2) [e] [] p3) (envF F fI L) = (do
      let ov ← attributeBase (.Call (.Name "super" p0) [] [] p1) "__init__" (envF F fI L) (eval (.Call (.Name "super" p0) [] [] p1) (envF F fI L))
      standAt p2.atName
      let (f, first) ← holding [ov] (getMethod ov "__init__" pl)
      callWith p3 f first (backTo p3 (starEach [e] (envF F fI L))) [])) : SupW F p f e where
  sc := nscope_by hsc
  self_ := hself
  su := hsu
  body := ⟨p0, p1, p2, p3, p4, q1, q2, q3, q4, hb, fun fI L => ev fI L hl⟩
  dbg := hd
  st := st
  sw := fun fI L p0 p1 p2 p3 p4 => by rfl
  sw2 := fun fI L q1 q2 q3 q4 => by rfl
section
variable {P : Program} {w : World} {K : PySem.W.Frag} {mg : Str → Option Value} {base : Heap} {C fI : Addr} {f p : Str} {fd : FuncData} {F : NF}
theorem exS_str (T : SupC P K C fI f) (TF : SupF P K C fI fd F) (hmg : mg "super" = none) (hbody : sup1 p f F.body = true) (hsc : nscB ["self", p, "__class__"] ["self", p] ["__class__"] F.scope = true) (hself : (F.params.posonlyargs ++ F.params.args).head?.map (·.arg) = some "self") (hsu : F.scope.names.lookup ("super" : Str) = some .globalImplicit)
    (hd : (p == ("__debug__" : Str)) = false ∧ (p == ("__classdict__" : Str)) = false)
    (hb : ∀ (doc pm ctv : Value) (us : List Value), us.length = 2 → bindArgs (F.fd doc pm ctv) ⟨us, []⟩ = pure ((["self", p] : List Str).zip us)) : ExS P w K mg base C f okStr := by
  obtain ⟨t, j, r1, r2, r3, p0, p1, p2, p3, p4, q1, q2, q3, q4, hbd, hln, hl⟩ := sup1_ok hbody
  have Wd := supW_of hsc hself hsu hd hbd (fun fI L => by rfl) hln (fun fI L hq => sup_ev hq rfl rfl)
  refine exS_of (okV := okStrV) T TF Wd hmg (fun A outer s0 H0 E0 => pe_op op_add_str pe_str (pe_var (i := 1) rfl (.inl (Wd.sc.par p (by simp))) hd.1 hd.2)) (fun σ H x hσ hx => ?_) hb ?_
  · refine ⟨x, hσ, ?_⟩
    unfold okStrV at hx
    split at hx
    · rename_i s
      have hx := of_decide_eq_true hx
      exact ⟨t, s, rfl, rfl, by rw [sizeLine_eq]; omega, rfl, rfl⟩
    · cases hx
  · intro x hx
    cases x <;> first | exact hx | cases hx
end
end DL
namespace DL
open PySem L2 PyProof.Rows
structure KitN (K : PySem.W.Frag) (C : Addr) : Prop where
  kit : ∀ t ∈ tyAll, PySem.W.kitOne K (.type t) (.ref C) = some false
  nf : ∀ t ∈ tyAll, PySem.W.notFirst K C (.type t) = true
def gIsiA (C : Str) : D → Option D := fun d => match d with
  | .n (.ins C' _) _ _ => if C' = C then some (.bl true) else none
  | _ => match tyN d with
    | some _ => some (.bl false)
    | none => none
section
variable {X : Cx} {cA : Str → Addr} {W : WX} {fa fb : Env → Out D} {a b : Expr} {pos : Pos}
end
section
variable {X : Cx} {cA : Str → Addr} {C : Str} {f : Addr} {fd : FuncData} {ps : List Str} {k : Nat} {kio : Option Nat} {F : List D → FR}
end
end DL
namespace DL
open PySem L2 PyProof.Rows
section
variable {X : Cx} {cA : Str → Addr} {W : WX} {C : Str} {f : Addr} {fd : FuncData} {ps : List Str} {k : Nat} {kio : Option Nat} {F : List D → FR} {fa fb : Env → Out D} {a b : Expr} {pos apos : Pos}
def gLenO (C : Str) (F : List D → FR) : D → Option D
  | .n (.ins C1 fs1) false xs1 => if C1 = C ∧ isFL xs1 = true then (match F [.n (.ins C1 fs1) false xs1] with
    | .rt (.a (.int n)) _ => if 0 ≤ n ∧ n < 1000000 then some (.int n) else none
    | _ => none) else none
  | d => gLen d
def firstEq (x : D) : List D → Option Nat
  | [] => none
  | y :: ys => if eqD y x = true then some 0 else (firstEq x ys).map (· + 1)
def gIndexL (l x : D) : Option D := match l with
  | .n .lst _ ys => if pD 60 x = true ∧ pDL 60 ys = true then (firstEq x ys).map fun j => D.int (j : Nat) else none
  | _ => none
def dIndexL (fa fb : Env → Out D) : Env → Out D := fun ρ => match fa ρ with
  | .ok (.n .lst o xs) ρ1 => (match fb ρ1 with
    | .ok d2 ρ2 => (match gIndexL (.n .lst o xs) d2 with
      | some d => .ok d ρ2
      | none => .st)
    | .ex e ρ2 => .ex e ρ2
    | .st => .st)
  | .ok _ _ => .st
  | .ex e ρ1 => .ex e ρ1
  | .st => .st
end
def dRngD (f g : Env → Out D) : Env → Out (List D) := fun ρ => match f ρ with
  | .ok (.a (.int i)) ρ1 => (match g ρ1 with
    | .ok (.a (.int j)) ρ2 => if (-1000000 ≤ i ∧ i ≤ 1000000) ∧ -1000000 ≤ j ∧ j ≤ 1000000 then .ok (intsC i (-1) (i - j).toNat) ρ2 else .st
    | .ok _ _ => .st
    | .ex e ρ2 => .ex e ρ2
    | .st => .st)
  | .ok _ _ => .st
  | .ex e ρ1 => .ex e ρ1
  | .st => .st
section
variable {X : Cx} {cA : Str → Addr} {W : WX} {f g : Env → Out D} {e e2 tg : Expr} {p p2 p3 pos : Pos}
end
end DL
namespace DL
open PySem PySem.Spec PySem.W PyProof.Rows L2
section
variable {prog : Program} {w : World} {A : Around} {E : Value → Shared → Prop} {s : Shared}
end
section
variable {X : Cx} {cA : Str → Addr} {W : WX} {fa : Env → Out D} {a : Expr}
end
end DL
namespace DL
open PySem L2
def tgP (g1 g2 : D → Env → Option Env) (d : D) (ρ : Env) : Option Env := match d with
  | .n .tup _ [a, b] => (match g1 a ρ with
    | some ρ1 => g2 b ρ1
    | none => none)
  | _ => none
theorem But.trans {is js : List Nat} {σ σ1 σ2 : L2.St} (a : But is σ σ1) (b : But js σ1 σ2) : But (is ++ js) σ σ2 :=
  ⟨by rw [b.1, a.1], fun j hj => by
    rw [List.mem_append] at hj
    rw [b.2 j fun m => hj (.inr m), a.2 j fun m => hj (.inl m)]⟩
theorem s_tgP {g1 g2 : D → DL.Env → Option DL.Env} {o : Bool} {a b : D} {ρ : DL.Env} : tgP g1 g2 (.n .tup o [a, b]) ρ = (match g1 a ρ with | some ρ1 => g2 b ρ1 | none => none) := rfl
end DL
namespace DL
open PySem L2 PyProof.Rows
section
variable {X : Cx} {cA : Str → Addr} {W : WX} {fa fb : Env → Out D} {k : Nat} {kio : Option Nat} {f : Addr} {fd : FuncData} {ps : List Str} {F : List D → FR} {mn : Str} {pos : Pos} {a b : Expr} {op : Operator}
end
end DL
namespace DL
open PySem L2 PyProof.Rows
def dBinO (C : Str) (F : List D → FR) (fa fb : Env → Out D) : Env → Out D := fun ρ => match fa ρ with
  | .ok (.n (.ins C1 fs) false xs) ρ1 => if C1 = C ∧ isFL xs = true then (match fb ρ1 with
    | .ok (.n (.ins C2 gs) false ys) ρ2 => if C2 = C ∧ isFL ys = true then (match F [.n (.ins C1 fs) false xs, .n (.ins C2 gs) false ys] with
        | .rt d _ => .ok d ρ2
        | .ex e _ => .ex e ρ2
        | .st => .st) else .st
    | .ok _ _ => .st
    | .ex e ρ2 => .ex e ρ2
    | .st => .st) else .st
  | .ok _ _ => .st
  | .ex e ρ1 => .ex e ρ1
  | .st => .st
section
variable {X : Cx} {cA : Str → Addr} {W : WX} {fa fb : Env → Out D} {k : Nat} {kio : Option Nat} {f : Addr} {fd : FuncData} {ps : List Str} {F : List D → FR} {mn : Str} {pos : Pos} {a b : Expr} {op : Operator}
end
end DL
namespace DL
open PySem L2 PyProof.Rows
def dNegO (C : Str) (F : List D → FR) (fa : Env → Out D) : Env → Out D := fun ρ => match fa ρ with
  | .ok (.n (.ins C1 fs) false xs) ρ1 => if C1 = C ∧ isFL xs = true then (match F [.n (.ins C1 fs) false xs] with
        | .rt d _ => .ok d ρ1
        | .ex e _ => .ex e ρ1
        | .st => .st) else .st
  | .ok _ _ => .st
  | .ex e ρ1 => .ex e ρ1
  | .st => .st
section
variable {X : Cx} {cA : Str → Addr} {W : WX} {fa : Env → Out D} {k : Nat} {kio : Option Nat} {f : Addr} {fd : FuncData} {ps : List Str} {F : List D → FR} {pos : Pos} {a : Expr}
end
end DL
namespace DL
open PySem L2
def isLs : Kd → Bool
  | .lst => true
  | _ => false
def isTI : Kd → Bool
  | .tup => true
  | .ins _ _ => true
  | _ => false
mutual
def okO : D → Bool
  | .a _ => true
  | .n k o xs => (!o || isLs k) && okOL xs
def okOL : List D → Bool
  | [] => true
  | x :: xs => okO x && okOL xs
end
mutual
def noL : D → Bool
  | .a _ => true
  | .n k _ xs => isTI k && noLL xs
def noLL : List D → Bool
  | [] => true
  | x :: xs => noL x && noLL xs
end
section
variable {K : PySem.W.Frag} {cA : Str → Addr} {H H' : Hp} {Z Z' : ZS}
def tmpE (is : List Nat) : Nat → Env → Env
  | _, [] => []
  | k, none :: ρ => none :: tmpE is (k + 1) ρ
  | k, some d :: ρ => (if k ∈ is ∧ okO d = true then some (frz d) else if isF d = true then some d else none) :: tmpE is (k + 1) ρ
end
def dTmp (is : List Nat) (f : Env → Out D) : Env → Out D := fun ρ => match f (tmpE is 0 ρ) with
  | .ok d _ => if noL d = true then .ok d ρ else .st
  | .ex e _ => .ex e ρ
  | .st => .st
section
variable {X : Cx} {cA : Str → Addr} {W : WX} {f : Env → Out D} {e : Expr}
def dMv (i : Nat) : Env → Out D := fun ρ => match ρ[i]? with
  | some (some d) => .ok d (ρ.set i none)
  | _ => .st
def dPop0 (i : Nat) : Env → Out D := fun ρ => match ρ[i]? with
  | some (some (.n .lst true xs)) => (match xs[xs.length - 1]? with
    | some d => .ok d (ρ.set i (some (.lst true (xs.eraseIdx (xs.length - 1)))))
    | none => .st)
  | _ => .st
end
end DL
namespace DL
open PySem L2
def keyOf : At → Option Key
  | .int i => some (.inl i)
  | .str s => some (.inr s)
  | _ => none
def dctAt : List Key → List D → Key → Option D
  | k :: ks, x :: xs, j => if k = j then some x else dctAt ks xs j
  | _, _, _ => none
def hasK (j : Key) : List Key → Bool
  | [] => false
  | k :: ks => decide (k = j) || hasK j ks
def putKs (ks : List Key) (j : Key) : List Key := if hasK j ks = true then ks else ks ++ [j]
def putR : List Key → List D → Key → D → List D
  | k :: ks, x :: xs, j, d => (if k = j then d else x) :: putR ks xs j d
  | _, _, _, _ => []
def putXs (ks : List Key) (xs : List D) (j : Key) (d : D) : List D := if hasK j ks = true then putR ks xs j d else xs ++ [d]
section
variable {K : PySem.W.Frag} {cA : Str → Addr} {H H' : Hp} {Z Z' : ZS}
end
def dDGet (i : Nat) (fb : Env → Out D) : Env → Out D := fun ρ => match ρ[i]? with
  | some (some (.n (.dct _) _ _)) => (match fb ρ with
    | .ok (.a x) ρ1 => (match keyOf x with
      | some k => (match ρ1[i]? with
        | some (some (.n (.dct ks) _ xs)) => (match dctAt ks xs k with
          | some d => if isF d = true then .ok d ρ1 else .st
          | none => .st)
        | _ => .st)
      | none => .st)
    | .ok _ _ => .st
    | .ex e ρ1 => .ex e ρ1
    | .st => .st)
  | _ => .st
def dDIn (neg : Bool) (i : Nat) (fb : Env → Out D) : Env → Out D := fun ρ => match fb ρ with
  | .ok (.a x) ρ1 => (match keyOf x with
    | some k => (match ρ1[i]? with
      | some (some (.n (.dct ks) _ xs)) => if ks.length = xs.length then .ok (.a (.bl (if neg then !hasK k ks else hasK k ks))) ρ1 else .st
      | _ => .st)
    | none => .st)
  | .ok _ _ => .st
  | .ex e ρ1 => .ex e ρ1
  | .st => .st
def dDGet2 (i : Nat) (fb fc : Env → Out D) : Env → Out D := fun ρ => match ρ[i]? with
  | some (some (.n (.dct _) _ _)) => (match fb ρ with
    | .ok (.a x) ρ1 => (match fc ρ1 with
      | .ok c ρ2 => (match keyOf x with
        | some k => (match ρ2[i]? with
          | some (some (.n (.dct ks) _ xs)) => (match dctAt ks xs k with
            | some d => if isF d = true ∧ isF c = true then .ok d ρ2 else .st
            | none => if isF c = true then .ok c ρ2 else .st)
          | _ => .st)
        | none => .st)
      | .ex e ρ2 => .ex e ρ2
      | .st => .st)
    | .ok _ _ => .st
    | .ex e ρ1 => .ex e ρ1
    | .st => .st)
  | _ => .st
def stDPut (i : Nat) (fj : Env → Out D) (d : D) (ρ : Env) : Fl := match ρ[i]? with
  | some (some (.n (.dct _) true _)) => (match fj ρ with
    | .ok (.a x) ρ2 => (match keyOf x with
      | some k => (match ρ2[i]? with
        | some (some (.n (.dct ks) true xs)) => if (isF d = true ∧ isFL xs = true) ∧ xs.length < cap then .nx (ρ2.set i (some (.n (.dct (putKs ks k)) true (putXs ks xs k d)))) else .st
        | _ => .st)
      | none => .st)
    | .ok _ _ => .st
    | .ex e ρ2 => .ex e ρ2
    | .st => .st)
  | _ => .st
def gLenD : D → Option D
  | .n (.dct _) _ xs => some (.a (.int xs.length))
  | _ => none
section
variable {X : Cx} {cA : Str → Addr} {W : WX} {fa fb fc f : Env → Out D} {a b c e o ix : Expr} {pos apos cpos : Pos} {k : Option Nat}
def dDisp1 (fb fc : Env → Out D) : Env → Out D := fun ρ => match fb ρ with
  | .ok (.a x) ρ1 => (match fc ρ1 with
    | .ok d ρ2 => (match keyOf x with
      | some k => if isF d = true then .ok (.n (.dct [k]) true [d]) ρ2 else .st
      | none => .st)
    | .ex e ρ2 => .ex e ρ2
    | .st => .st)
  | .ok _ _ => .st
  | .ex e ρ1 => .ex e ρ1
  | .st => .st
end
end DL
namespace DL
open PySem L2
section
variable {P : Program} {w : World} {K : PySem.W.Frag} {cA : Str → Addr} {mg : Str → Option Value} {base : Heap}
end
end DL
namespace DL
open PySem L2
section
variable {X : Cx} {cA : Str → Addr} {W : WX} {f : Env → Out D}
def dFzB (i : Nat) (f : Env → Fl) : Env → Fl := fun ρ => match ρ[i]? with
  | some (some d) => f (ρ.set i (some (frz d)))
  | _ => f ρ
end
end DL
namespace DL
open PySem L2
section
variable {X : Cx} {cA : Str → Addr} {W : WX} {fb : Env → Out D} {b o : Expr} {pos : Pos}
end
end DL
namespace DL
open PySem L2
theorem ints_are : ∀ {ns : List Int} {us : List Value}, Vals (ns.map V.int) us → PyProof.Rows.IntsAre us ns
  | [], us, h => by
    cases us with
    | nil => exact .nil
    | cons u us => cases h
  | n :: ns, us, h => by
    cases h with
    | cons r h =>
      obtain ⟨t, rfl⟩ := r
      exact .cons n t (ints_are h)
def rSumT (K : PySem.W.Frag) : List V → Hp → VK → Prop := fun vs H Q => ∃ (a : Addr) (ns : List Int), vs = [V.ref a] ∧ SqT K H a (ns.map V.int) ∧ Q (.int ns.sum) H
section
variable {X : Cx}
open PyProof.Rows in
theorem cr_sumT (hc : X.calm = true) : CallR X (.builtin "sum") (rSumT X.K) := by
  intro pins s σ H vs us Q I r h
  obtain ⟨a, ns, rfl, hs, q⟩ := h
  obtain ⟨its, rv, hl, _⟩ := I.tuple hs
  rw [Vals.ref1 r]
  have hi := ints_are rv
  obtain ⟨xs, e⟩ := hi.allInts.items
  have hn : numsOf (intItems xs).toList = ns := by rw [← e]; exact hi.numsOf
  rw [nums_intItems] at hn
  rw [e] at hl
  refine PySem.W.ktm_sumG (I.ok.hd hc) hl fun h' tk t' hk => ?_
  refine ⟨.int _, H, I.kept hk, ⟨t', ?_⟩, q⟩
  rw [preSum_eq, List.take_of_length_le (by simp), hn]
end
section
variable {K : PySem.W.Frag} {cA : Str → Addr}
end
section
variable {X : Cx} {cA : Str → Addr} {W : WX} {fa fb : Env → Out D} {a b : Expr} {p pos : Pos}
end
end DL
namespace DL
open PySem L2
def rSortedIT (K : PySem.W.Frag) : List V → Hp → VK → Prop := fun vs H Q => ∃ (a : Addr) (ns : List Int), vs = [V.ref a] ∧ SqT K H a (ns.map V.int) ∧
  ∀ (ns' : List Int) (p : Addr), ns'.Perm ns → ns'.Pairwise (· ≤ ·) → H p = none → Q (.ref p) (upd H p (.lst (ns'.map V.int)))
section
variable {X : Cx}
open PyProof.Rows SrtO in
theorem cr_sortedIT : CallR X (.builtin "sorted") (rSortedIT X.K) := by
  intro pins s σ H vs us Q I r h
  obtain ⟨a, ns, rfl, hs, q⟩ := h
  obtain ⟨its, rv, hl, hz⟩ := I.tuple hs
  rw [Vals.ref1 r]
  have hi := ints_are rv
  obtain ⟨o, ho, hc, n, hd⟩ := hl
  have hz' : its.length ≤ sizeLine := by rw [← rv.length]; exact hz
  refine Calls.call_function_entry kind_sorted plain_sorted entry_sorted (args_sorted1 _) ?_
  unfold Builtin.«sorted»
  refine wpAny_bind (m := checkCount "sorted" 1 1 _) (wpAny_pure ?_)
  refine wpAny_bind (wpAny_collect_seq a (.inr rfl) ho hc hd (fun h' hk => ?_) (by simpa using hz'))
  have I2 : Inv X pins σ H { s with heap := h' } := I.kept (t' := s.toks) hk
  refine wpAny_bind (wpAny_newList ?_ hz')
  have hoL : (h'.push (seqObj "list" its.toArray 0)).get? h'.objs.size = some (seqObj "list" its.toArray 0) := Heap.get?_push_size _ rfl
  show wpAny _ _ _ _ _ { s with heap := h'.push (seqObj "list" its.toArray 0) }
  refine wpAny_bind (wpAny_holding (wpAny_call_entry slot_list_sort ⟨_, hoL, rfl⟩ entry_list_sort (list_sort_ord swo_int hoL hz' (fun h2 => ints_sortable hi h2) fun out h1 h2 => ⟨_, rfl, ?_⟩) (args_list_sort _)))
  obtain ⟨k1, k2, k3⟩ := ints_out hi h1 h2
  obtain ⟨ep, he'⟩ := sortedHeap_at (out := out.toArray) hoL
  have hlen : ((out.map iv).map V.int).length ≤ sizeLine := by
    rw [List.length_map, k2.length_eq]
    rw [List.length_map] at hz
    exact hz
  refine wpAny_pure ⟨_, rfl, .ref _, upd H h'.objs.size (.lst ((out.map iv).map V.int)), I2.laid (t' := s.toks) (fun b u hb => ?_) (Nat.le_refl _) ⟨hlen, out, ep, vals_of_ints k1, he'⟩, rfl, q _ _ k2 k3 (I2.hok.fresh (Nat.le_refl _))⟩
  have hlt : b < h'.objs.size := Heap.lt_size hb
  exact (sortedHeap_old (Nat.ne_of_lt hlt) (by rw [Heap.size_push]; exact Nat.lt_succ_of_lt hlt)).trans (Heap.get?_push_of_some _ hb)
end
section
variable {K : PySem.W.Frag} {cA : Str → Addr}
end
section
variable {X : Cx} {cA : Str → Addr} {W : WX} {fa fb : Env → Out D} {a b : Expr} {p pos : Pos}
end
section
variable {prog : Program} {w : World} {A : Around} {E : Value → Shared → Prop} {s : Shared}
end
section
variable {K : PySem.W.Frag} {cA : Str → Addr}
end
section
variable {X : Cx} {cA : Str → Addr} {W : WX} {f : Env → Out D} {e : Expr} {p pos tpos : Pos} {elts : List Expr} {kk : Nat}
end
end DL
namespace DL
open PySem L2
def dDGetE (fa fb : Env → Out D) : Env → Out D := fun ρ => match fa ρ with
  | .ok (.n (.dct ks) _ xs) ρ1 => (match fb ρ1 with
    | .ok (.a x) ρ2 => (match keyOf x with
      | some k => (match dctAt ks xs k with
        | some d => if isF d = true then .ok d ρ2 else .st
        | none => .st)
      | none => .st)
    | .ok _ _ => .st
    | .ex e ρ2 => .ex e ρ2
    | .st => .st)
  | .ok _ _ => .st
  | .ex e ρ1 => .ex e ρ1
  | .st => .st
section
variable {X : Cx} {cA : Str → Addr} {W : WX} {fa fb : Env → Out D} {b o : Expr} {pos : Pos}
end
end DL
namespace DL
open PySem L2
def gDivm (d1 d2 : D) : Option D := match d1, d2 with
  | .a (.int i), .a (.int j) => if 0 < j ∧ j < 1073741824 then some (.tup [.int (i / j), .int (i % j)]) else none
  | _, _ => none
section
variable {X : Cx} {cA : Str → Addr} {W : WX} {fa fb : Env → Out D} {a b : Expr} {pos p p2 pos2 : Pos}
end
end DL
namespace DL
open PySem PySem.Spec PySem.W PyProof.Rows L2
theorem isFLc {x : D} {xs : List D} : isFL (x :: xs) = (isF x && isFL xs) := rfl
theorem isFn {k : Kd} {o : Bool} {xs : List D} : isF (.n k o xs) = (!o && isFL xs) := rfl
theorem isFL_mem : ∀ {l : List D}, isFL l = true → ∀ x ∈ l, isF x = true
  | [], _, x, hx => by cases hx
  | y :: l, h, x, hx => by
    rw [isFLc, Bool.and_eq_true] at h
    rcases List.mem_cons.mp hx with e | e
    · subst e; exact h.1
    · exact isFL_mem h.2 x e
theorem isFL_of : ∀ {l : List D}, (∀ x ∈ l, isF x = true) → isFL l = true
  | [], _ => rfl
  | y :: l, h => by
    rw [isFLc, Bool.and_eq_true]
    exact ⟨h y (by simp), isFL_of fun x hx => h x (by simp [hx])⟩
theorem isFL_perm {l m : List D} (p : l.Perm m) (h : isFL l = true) : isFL m = true := isFL_of fun x hx => isFL_mem h x (p.mem_iff.mpr hx)
def bU : Int := 18446744073709551616
def tupIs : D → Option (List Int)
  | .n .tup _ xs => intsOf xs
  | _ => none
def codeU (x : D) : Int := match tupIs x with
  | some ns => TS.code bU ns
  | none => 0
def okU (d : Nat) (x : D) : Bool := match tupIs x with
  | some ns => decide (ns.length = d) && ns.all fun z => decide (0 ≤ z) && decide (z < bU)
  | none => false
def insU (x : D) : List D → List D
  | [] => [x]
  | y :: ys => if codeU x ≤ codeU y then x :: y :: ys else y :: insU x ys
def sortU : List D → List D
  | [] => []
  | x :: xs => insU x (sortU xs)
def dimU : List D → Nat
  | [] => 1
  | x :: _ => match tupIs x with
    | some ns => ns.length
    | none => 0
def gSortU : D → Option D
  | .n .lst _ xs => if isFL xs = true ∧ xs.length < 64 ∧ 1 ≤ dimU xs ∧ xs.all (okU (dimU xs)) = true then some (.lst true (sortU xs)) else none
  | _ => none
theorem insU_perm (a : D) : ∀ bs : List D, (insU a bs).Perm (a :: bs)
  | [] => List.Perm.refl _
  | b :: bs => by
    unfold insU
    split
    · exact List.Perm.refl _
    · exact ((insU_perm a bs).cons b).trans (List.Perm.swap a b bs)
theorem sortU_perm : ∀ as : List D, (sortU as).Perm as
  | [] => List.Perm.refl _
  | a :: as => (insU_perm a (sortU as)).trans ((sortU_perm as).cons a)
theorem insU_sorted (a : D) : ∀ bs : List D, bs.Pairwise (fun x y => codeU x ≤ codeU y) → (insU a bs).Pairwise (fun x y => codeU x ≤ codeU y)
  | [], _ => List.pairwise_singleton _ _
  | b :: bs, h => by
    unfold insU
    have hb := List.pairwise_cons.mp h
    split
    · rename_i hab
      exact List.pairwise_cons.mpr ⟨fun c hc => by
        rcases List.mem_cons.mp hc with e | e
        · subst e; exact hab
        · have := hb.1 c e
          omega, h⟩
    · rename_i hab
      refine List.pairwise_cons.mpr ⟨fun c hc => ?_, insU_sorted a bs hb.2⟩
      rcases List.mem_cons.mp ((insU_perm a bs).mem_iff.mp hc) with e | e
      · subst e; omega
      · exact hb.1 c e
theorem sortU_sorted : ∀ as : List D, (sortU as).Pairwise (fun x y => codeU x ≤ codeU y)
  | [] => List.Pairwise.nil
  | a :: as => insU_sorted a _ (sortU_sorted as)
theorem code_inj {B : Int} : ∀ {a b : List Int}, a.length = b.length → TS.Bd B a → TS.Bd B b → TS.code B a = TS.code B b → a = b
  | [], [], _, _, _, _ => rfl
  | [], _ :: _, h, _, _, _ => by simp at h
  | _ :: _, [], h, _, _, _ => by simp at h
  | x :: a, y :: b, h, ha, hb, e => by
    have hl : a.length = b.length := by simpa using h
    have hxy : x = y := by
      false_or_by_contra
      rename_i hne
      rcases Int.lt_or_gt_of_ne hne with q | q
      · have := TS.code_lt hl ha.tail hb.tail q
        omega
      · have := TS.code_lt hl.symm hb.tail ha.tail q
        omega
    subst hxy
    have e2 : TS.code B a = TS.code B b := by
      have e3 : x * B ^ a.length + TS.code B a = x * B ^ b.length + TS.code B b := e
      rw [hl] at e3
      generalize x * B ^ b.length = X at e3
      omega
    rw [code_inj hl ha.tail hb.tail e2]
theorem intsOf_inj : ∀ {xs ys : List D} {ns : List Int}, intsOf xs = some ns → intsOf ys = some ns → xs = ys := by
  have key : ∀ {xs : List D} {ns : List Int}, intsOf xs = some ns → xs = ns.map D.int := fun {xs} => by
    induction xs with
    | nil => intro ns h; cases h; rfl
    | cons x xs ih =>
      intro ns h
      cases x with
      | n _ _ _ => cases h
      | a z =>
        cases z with
        | int i =>
          unfold intsOf at h
          cases e : intsOf xs with
          | none => rw [e] at h; cases h
          | some ms =>
            rw [e] at h
            cases h
            rw [ih e]
            rfl
        | _ => cases h
  intro xs ys ns h1 h2
  rw [key h1, key h2]
theorem okU_inj {d : Nat} {x y : D} (hx : okU d x = true) (hy : okU d y = true) (fx : isF x = true) (fy : isF y = true) (e : codeU x = codeU y) : x = y := by
  unfold okU at hx hy
  unfold codeU at e
  cases hx2 : tupIs x with
  | none => rw [hx2] at hx; cases hx
  | some ns =>
    cases hy2 : tupIs y with
    | none => rw [hy2] at hy; cases hy
    | some ms =>
      rw [hx2] at hx e
      rw [hy2] at hy e
      dsimp only at hx hy e
      rw [Bool.and_eq_true] at hx hy
      have bd : ∀ {l : List Int}, (l.all fun z => decide (0 ≤ z) && decide (z < bU)) = true → TS.Bd bU l := fun {l} h m hm => by
        have := List.all_eq_true.mp h m hm
        simpa using this
      have el : ns.length = ms.length := by
        have h1 := of_decide_eq_true hx.1
        have h2 := of_decide_eq_true hy.1
        omega
      have := code_inj el (bd hx.2) (bd hy.2) e
      subst this
      cases x with
      | a z => cases hx2
      | n k o xs =>
        cases y with
        | a z => cases hy2
        | n k' o' ys =>
          cases k with
          | tup =>
            cases k' with
            | tup =>
              have := intsOf_inj (show intsOf xs = some ns from hx2) (show intsOf ys = some ns from hy2)
              subst this
              rw [isFn] at fx fy
              cases o with
              | true => cases fx
              | false =>
                cases o' with
                | true => cases fy
                | false => rfl
            | _ => cases hy2
          | _ => cases hx2
theorem sortU_uniq {d : Nat} {as bs : List D} (ha : as.Pairwise fun x y => codeU x ≤ codeU y) (hb : bs.Pairwise fun x y => codeU x ≤ codeU y) (p : as.Perm bs) (ok : as.all (okU d) = true) (hf : isFL as = true) : as = bs := by
  refine List.Perm.eq_of_pairwise (le := fun x y => codeU x ≤ codeU y) (fun a b h1 h2 h3 h4 => ?_) ha hb p
  have hb1 : b ∈ as := p.mem_iff.mpr h2
  exact okU_inj (List.all_eq_true.mp ok a h1) (List.all_eq_true.mp ok b hb1) (isFL_mem hf a h1) (isFL_mem hf b hb1) (by omega)
section
variable {K : PySem.W.Frag} {cA : Str → Addr}
theorem repL_consU {H : Hp} {Z : ZS} {x : D} {xs : List D} {vs : List V} (h : RepL K cA H Z (x :: xs) vs []) : ∃ v vs', vs = v :: vs' ∧ RepD K cA H Z x v [] ∧ RepL K cA H Z xs vs' [] := by
  obtain ⟨v, vs', f1, f2, e, h1, h2, h3⟩ := h
  have e1 : f1 = [] ∧ f2 = [] := by simpa using h3.symm
  obtain ⟨rfl, rfl⟩ := e1
  exact ⟨v, vs', e, h1, h2⟩
theorem repL_nilU {H : Hp} {Z : ZS} {vs : List V} (h : RepL K cA H Z [] vs []) : vs = [] := h.1
theorem repL_mk {H : Hp} {Z : ZS} {x : D} {xs : List D} {v : V} {vs : List V} (h1 : RepD K cA H Z x v []) (h2 : RepL K cA H Z xs vs []) : RepL K cA H Z (x :: xs) (v :: vs) [] := ⟨v, vs, [], [], rfl, h1, h2, rfl⟩
theorem repL_v {H : Hp} {Z : ZS} {xs : List D} {v : V} {vs : List V} (h : RepL K cA H Z xs (v :: vs) []) : ∃ x xs', xs = x :: xs' ∧ RepD K cA H Z x v [] ∧ RepL K cA H Z xs' vs [] := by
  cases xs with
  | nil => have := repL_nilU h; cases this
  | cons x xs =>
    obtain ⟨v', vs', e, h1, h2⟩ := repL_consU h
    have e1 : v = v' := (List.cons.inj e).1
    have e2 : vs = vs' := (List.cons.inj e).2
    subst e1 e2
    exact ⟨x, xs, rfl, h1, h2⟩
theorem repL_perm {H : Hp} {Z : ZS} {ys vs : List V} (p : ys.Perm vs) : ∀ {xs : List D}, RepL K cA H Z xs vs [] → ∃ xs', xs'.Perm xs ∧ RepL K cA H Z xs' ys [] := by
  induction p with
  | nil => intro xs h; exact ⟨xs, List.Perm.refl _, h⟩
  | cons v p ih =>
    intro xs h
    obtain ⟨x, xs1, e, h1, h2⟩ := repL_v h
    obtain ⟨xs', q1, q2⟩ := ih h2
    rw [e]
    exact ⟨x :: xs', q1.cons x, repL_mk h1 q2⟩
  | swap u v l =>
    intro xs h
    obtain ⟨x, xs1, e, h1, h2⟩ := repL_v h
    obtain ⟨y, xs2, e2, h3, h4⟩ := repL_v h2
    rw [e, e2]
    exact ⟨y :: x :: xs2, List.Perm.swap .., repL_mk h3 (repL_mk h1 h4)⟩
  | trans _ _ ih1 ih2 =>
    intro xs h
    obtain ⟨x1, q1, q2⟩ := ih2 h
    obtain ⟨x2, q3, q4⟩ := ih1 q2
    exact ⟨x2, q3.trans q1, q4⟩
theorem repL_lenU {H : Hp} {Z : ZS} : ∀ {xs : List D} {vs : List V}, RepL K cA H Z xs vs [] → xs.length = vs.length
  | [], vs, h => by rw [repL_nilU h]; rfl
  | x :: xs, vs, h => by
    obtain ⟨v, vs', e, _, h2⟩ := repL_consU h
    rw [e, List.length_cons, List.length_cons, repL_lenU h2]
theorem repL_atU {H : Hp} {Z : ZS} : ∀ {xs : List D} {vs : List V}, RepL K cA H Z xs vs [] → ∀ y ∈ vs, ∃ x ∈ xs, RepD K cA H Z x y []
  | [], vs, h, y, hy => by rw [repL_nilU h] at hy; cases hy
  | x :: xs, vs, h, y, hy => by
    obtain ⟨v, vs', e, h1, h2⟩ := repL_consU h
    rw [e] at hy
    rcases List.mem_cons.mp hy with q | q
    · rw [q]; exact ⟨x, by simp, h1⟩
    · obtain ⟨w, hw, hr⟩ := repL_atU h2 y q
      exact ⟨w, by simp [hw], hr⟩
theorem repL_ofU {H : Hp} {Z : ZS} : ∀ {xs : List D} {vs : List V}, RepL K cA H Z xs vs [] → ∀ x ∈ xs, ∃ v ∈ vs, RepD K cA H Z x v []
  | [], vs, h, y, hy => by cases hy
  | x :: xs, vs, h, y, hy => by
    obtain ⟨v, vs', e, h1, h2⟩ := repL_consU h
    rw [e]
    rcases List.mem_cons.mp hy with q | q
    · rw [q]; exact ⟨v, by simp, h1⟩
    · obtain ⟨w, hw, hr⟩ := repL_ofU h2 y q
      exact ⟨w, by simp [hw], hr⟩
theorem tupI_rep {H : Hp} {Z : ZS} {x : D} {v : V} {fp : FP} {ns : List Int} (h : RepD K cA H Z x v fp) (e : tupIs x = some ns) : TupI K H v ns := by
  cases x with
  | a z => cases e
  | n k o xs =>
    cases k with
    | tup =>
      obtain ⟨p, vs, e0, e1, r1, _⟩ := rep_tup h
      have ev := intsOf_rep (show intsOf xs = some ns from e) r1
      subst ev
      exact ⟨p, e0, e1⟩
    | _ => cases e
theorem pairU {H : Hp} {Z : ZS} : ∀ {xs : List D} {vs : List V}, RepL K cA H Z xs vs [] → (∀ x ∈ xs, ∃ ns, tupIs x = some ns) → vs.Pairwise (fun x y => ∀ n m, TupI K H x n → TupI K H y m → TS.code bU n ≤ TS.code bU m) → xs.Pairwise fun x y => codeU x ≤ codeU y
  | [], _, _, _, _ => List.Pairwise.nil
  | x :: xs, vs, h, ht, hp => by
    obtain ⟨v, vs', e, h1, h2⟩ := repL_consU h
    subst e
    have hp' := List.pairwise_cons.mp hp
    refine List.pairwise_cons.mpr ⟨fun y hy => ?_, pairU h2 (fun z hz => ht z (by simp [hz])) hp'.2⟩
    obtain ⟨w, hw, hr⟩ := repL_ofU h2 y hy
    obtain ⟨n, hn⟩ := ht x (by simp)
    obtain ⟨m, hm⟩ := ht y (by simp [hy])
    have := hp'.1 w hw n m (tupI_rep h1 hn) (tupI_rep hr hm)
    unfold codeU
    rw [hn, hm]
    exact this
def rSortUE (K : PySem.W.Frag) : List V → Hp → VK → Prop := fun vs H Q => ∃ d, 1 ≤ d ∧ rSortU K d bU vs H Q
theorem vc_sortU : VC1 K cA (rSortUE K) gSortU := by
  refine ⟨@fun d1 d v1 H Z f1 Q h1 w hg q => ?_⟩
  unfold gSortU at hg
  split at hg
  · rename_i o xs
    split at hg
    · rename_i hc
      obtain ⟨hf, h64, hd, hok⟩ := hc
      cases hg
      obtain ⟨p, vs, g, rfl, e1, r0, _⟩ := rep_lst h1
      have r1 := repL_fl r0 hf
      have hsome : ∀ x ∈ xs, ∃ ns, tupIs x = some ns ∧ ns.length = dimU xs ∧ TS.Bd bU ns := fun x hx => by
        have := List.all_eq_true.mp hok x hx
        unfold okU at this
        cases e : tupIs x with
        | none => rw [e] at this; cases this
        | some ns =>
          rw [e] at this
          dsimp only at this
          rw [Bool.and_eq_true] at this
          refine ⟨ns, rfl, of_decide_eq_true this.1, fun m hm => ?_⟩
          have := List.all_eq_true.mp this.2 m hm
          simpa using this
      refine ⟨dimU xs, hd, p, vs, rfl, SqL.of e1, by rw [← repL_lenU r1]; exact h64, fun y hy => ?_, fun ys p' hp hs hn => ?_⟩
      · obtain ⟨x, hx, hr⟩ := repL_atU r1 y hy
        obtain ⟨ns, h1, h2, h3⟩ := hsome x hx
        exact ⟨ns, tupI_rep hr h1, h2, h3⟩
      · obtain ⟨xs', q1, q2⟩ := repL_perm hp r1
        have hso := pairU q2 (fun x hx => by
          obtain ⟨ns, h1, _⟩ := hsome x (q1.mem_iff.mp hx)
          exact ⟨ns, h1⟩) hs
        have e3 : xs' = sortU xs := sortU_uniq (d := dimU xs) hso (sortU_sorted xs) (q1.trans (sortU_perm xs).symm) (by
          rw [List.all_eq_true] at hok ⊢
          exact fun x hx => hok x (q1.mem_iff.mp hx)) (isFL_perm q1.symm hf)
        subst e3
        obtain ⟨a, b, c⟩ := new_lst w q2 hn
        exact q _ _ _ _ a b c
    · cases hg
  · cases hg
end
section
variable {X : Cx} {cA : Str → Addr} {W : WX} {fa fb : Env → Out D} {a b : Expr} {p pos : Pos}
theorem cr_sortUE : CallR X (.builtin "sorted") (rSortUE X.K) := by
  intro pins s σ H vs us Q I r h
  obtain ⟨d, hd, h⟩ := h
  exact cr_sortT hd pins s σ H vs us Q I r h
theorem de_sortU (hg : Gl X "sorted") (hm : X.mg "sorted" = none) (ha : DP X cA W fa a) (hs : starEach [a] X.env = (false, eval a X.env) :: starEach [] X.env := by kernel_rfl) : DE X cA W (dU gSortU fa) (.Call (.Name "sorted" p) [a] [] pos) :=
  de_callB cr_sortUE vc_sortU hg hm boot_sorted ha (by decide) (by decide) hs hs
end
end DL
namespace DL
open PySem PySem.Spec PySem.W PyProof.Rows L2 NdefX
section
variable {X : Cx} {cA : Str → Addr} {i : Nat} {a : Addr} {cls : Value} {d : Option Addr} {g h : Exn → Option At} {e e2 : Expr} {pos : Pos}
end
end DL
namespace DL
open PySem L2
end DL
namespace DL
open PySem L2
end DL
namespace L2
open PySem PySem.Spec PyProof.Rows
end L2
namespace DL
open PySem L2
end DL
namespace DL
open PySem L2
section
variable {prog : Program} {w : World} {κ : Type} [DecidableEq κ] {kd : KeyKind prog w κ} {A : Around} {E : Value → Shared → Prop} {s : Shared}
end
section
variable {X : Cx} {a b c : Expr} {pos : Pos}
end
section
variable {X : Cx} {cA : Str → Addr} {W : WX} {a b c : Expr} {pos : Pos}
end
section
variable {X : Cx} {cA : Str → Addr} {W : WX} {g : Env → Out (List Ag)}
section
variable {k n j : Nat} {kio : Option Nat} {f : Addr} {ps : List Str} {F : List D → FR} {x : Str} {p pos : Pos} {e : Expr} {es : List Expr}
end
end
end DL
namespace DL
open PySem PySem.Spec PySem.W PyProof.Rows L2
section
variable {prog : Program} {w : World} {A : Around} {E : Value → Shared → Prop} {s : Shared} {Q : Bool → Shared → Prop}
end
def OkV (h : Heap) (vs : List Value) : Prop := ∀ v ∈ vs, ∃ ns, TS.TupInts h v ns ∧ 1 ≤ ns.length ∧ ns.length ≤ 60 ∧ TS.Bd bU ns
theorem OkV.keeps {h g : Heap} {vs : List Value} (x : OkV h vs) (k : ∀ b o, h.get? b = some o → o.cls = .type "tuple" → g.get? b = some o) : OkV g vs := fun v m =>
  let ⟨ns, t, r⟩ := x v m
  ⟨ns, t.keeps k, r⟩
section
variable {prog : Program} {w : World} {A : Around} {E : Value → Shared → Prop} {s : Shared}
end
section
variable {X : Cx}
end
section
variable {K : PySem.W.Frag} {cA : Str → Addr}
end
section
variable {X : Cx} {cA : Str → Addr} {W : WX} {fa : Env → Out D} {a : Expr} {p pos : Pos}
end
end DL
namespace DL
open PySem L2
section
variable {X : Cx} {cA : Str → Addr} {W : WX} {k : Option Nat} {fb : Env → Out D} {e o ix : Expr} {pos apos cpos spos : Pos}
end
end DL
namespace DL
open PySem L2 PyProof.Rows
section
variable {X : Cx} {cA : Str → Addr} {W : WX} {fa fb : Env → Out D} {a b : Expr} {pos apos : Pos}
end
end DL
namespace DL
open PySem L2
section
variable {κ : Type} [DecidableEq κ]
end
section
variable {K : PySem.W.Frag} {cA : Str → Addr} {H H' : Hp} {Z Z' : ZS} {κ : Type} [DecidableEq κ]
end
section
variable {X : Cx} {cA : Str → Addr} {W : WX} {fa fb fc f : Env → Out D} {a b c e o ix : Expr} {pos apos cpos : Pos} {k : Option Nat}
end
end DL
namespace L2
open PySem PySem.Spec PyProof.Rows
end L2
namespace DL
open PySem L2
end DL
namespace DL
open PySem PySem.Spec PySem.W PyProof.Rows L2
section
variable {X : Cx}
end
section
variable {K : PySem.W.Frag} {cA : Str → Addr}
end
section
variable {X : Cx} {cA : Str → Addr} {W : WX} {fa : Env → Out D} {a : Expr} {p pos : Pos}
end
end DL
namespace DL
open PySem PySem.Spec PySem.W PyProof.Rows L2
section
variable {X : Cx}
end
section
variable {K : PySem.W.Frag} {cA : Str → Addr}
end
section
variable {X : Cx} {cA : Str → Addr} {W : WX} {fa : Env → Out D} {a : Expr} {p pos : Pos}
end
end DL
namespace DL
open PySem PySem.Spec PySem.W PyProof.Rows L2
end DL
namespace L2
open PySem PySem.Spec PyProof.Rows PySem.W
end L2
namespace DL
open PySem PySem.Spec PySem.W PyProof.Rows L2
theorem intsOf_map : ∀ {xs : List D} {ns : List Int}, intsOf xs = some ns → xs = ns.map D.int := fun {xs} => by
  induction xs with
  | nil => intro ns h; cases h; rfl
  | cons x xs ih =>
    intro ns h
    have e : intsOf (ns.map D.int) = some ns := by
      clear h
      induction ns with
      | nil => rfl
      | cons n ns ih2 =>
        show (intsOf (ns.map D.int)).map (n :: ·) = _
        rw [ih2]
        rfl
    exact intsOf_inj h e
section
variable {K : PySem.W.Frag} {cA : Str → Addr}
end
section
variable {X : Cx} {cA : Str → Addr} {W : WX} {fa : Env → Out D} {a : Expr} {p pos : Pos}
end
end DL
namespace G29
open PySem L2 DL PyProof.Rows
def top (i : Nat) : Stmt := PySem.Challenge.pw_orderforms_k29_whole_order_polynomials.main.body.getD i (.Pass ⟨0, 0, 0, 0⟩)
abbrev s_law_numbers : Stmt := top 29
def d_law_numbers : He.DefD := ⟨("_law_numbers", none), "_law_numbers", "_law_numbers", defArgs s_law_numbers, defBody s_law_numbers, defScope s_law_numbers, [], []⟩
abbrev s_law_next : Stmt := top 30
def d_law_next : He.DefD := ⟨("_law_next", none), "_law_next", "_law_next", defArgs s_law_next, defBody s_law_next, defScope s_law_next, [], []⟩
abbrev s_has : Stmt := top 11
def d_has : He.DefD := ⟨("has", none), "has", "has", defArgs s_has, defBody s_has, defScope s_has, [], []⟩
abbrev s_u_closed : Stmt := top 26
def d_u_closed : He.DefD := ⟨("_closed", none), "_closed", "_closed", defArgs s_u_closed, defBody s_u_closed, defScope s_u_closed, [], []⟩
abbrev s_is_integer : Stmt := top 6
def d_is_integer : He.DefD := ⟨("is_integer", none), "is_integer", "is_integer", defArgs s_is_integer, defBody s_is_integer, defScope s_is_integer, [], []⟩
abbrev s_u_checked_pairs : Stmt := top 25
def d_u_checked_pairs : He.DefD := ⟨("_checked_pairs", none), "_checked_pairs", "_checked_pairs", defArgs s_u_checked_pairs, defBody s_u_checked_pairs, defScope s_u_checked_pairs, [], []⟩
abbrev s_OrderU_initU : Stmt := inClass (top 27) 0
def d_OrderU_initU : He.DefD := ⟨("Order", some "__init__"), "__init__", "Order.__init__", defArgs s_OrderU_initU, defBody s_OrderU_initU, defScope s_OrderU_initU, [], []⟩
abbrev s_law_order : Stmt := top 31
def d_law_order : He.DefD := ⟨("_law_order", none), "_law_order", "_law_order", defArgs s_law_order, defBody s_law_order, defScope s_law_order, [], []⟩
abbrev s_Order_size : Stmt := inClass (top 27) 3
def d_Order_size : He.DefD := ⟨("Order", some "size"), "size", "Order.size", defArgs s_Order_size, defBody s_Order_size, defScope s_Order_size, [], []⟩
abbrev s_members : Stmt := top 8
def d_members : He.DefD := ⟨("members", none), "members", "members", defArgs s_members, defBody s_members, defScope s_members, [], []⟩
abbrev s_Order_pairs : Stmt := inClass (top 27) 8
def d_Order_pairs : He.DefD := ⟨("Order", some "pairs"), "pairs", "Order.pairs", defArgs s_Order_pairs, defBody s_Order_pairs, defScope s_Order_pairs, [], []⟩
abbrev s_law_maps : Stmt := top 32
def d_law_maps : He.DefD := ⟨("_law_maps", none), "_law_maps", "_law_maps", defArgs s_law_maps, defBody s_law_maps, defScope s_law_maps, [], []⟩
abbrev s_law_counts : Stmt := top 33
def d_law_counts : He.DefD := ⟨("_law_counts", none), "_law_counts", "_law_counts", defArgs s_law_counts, defBody s_law_counts, defScope s_law_counts, [], []⟩
abbrev s_set_of : Stmt := top 10
def d_set_of : He.DefD := ⟨("set_of", none), "set_of", "set_of", defArgs s_set_of, defBody s_set_of, defScope s_set_of, [], []⟩
abbrev s_Order_below : Stmt := inClass (top 27) 4
def d_Order_below : He.DefD := ⟨("Order", some "below"), "below", "Order.below", defArgs s_Order_below, defBody s_Order_below, defScope s_Order_below, [], []⟩
abbrev s_parts : Stmt := top 12
def d_parts : He.DefD := ⟨("parts", none), "parts", "parts", defArgs s_parts, defBody s_parts, defScope s_parts, [], []⟩
abbrev s_count : Stmt := top 9
def d_count : He.DefD := ⟨("count", none), "count", "count", defArgs s_count, defBody s_count, defScope s_count, [], []⟩
abbrev s_lower_sets : Stmt := top 14
def d_lower_sets : He.DefD := ⟨("lower_sets", none), "lower_sets", "lower_sets", defArgs s_lower_sets, defBody s_lower_sets, defScope s_lower_sets, [], []⟩
abbrev s_Order_is_antichain : Stmt := inClass (top 27) 16
def d_Order_is_antichain : He.DefD := ⟨("Order", some "is_antichain"), "is_antichain", "Order.is_antichain", defArgs s_Order_is_antichain, defBody s_Order_is_antichain, defScope s_Order_is_antichain, [], []⟩
abbrev s_steps_between : Stmt := top 19
def d_steps_between : He.DefD := ⟨("steps_between", none), "steps_between", "steps_between", defArgs s_steps_between, defBody s_steps_between, defScope s_steps_between, [], []⟩
abbrev s_trimmed : Stmt := top 18
def d_trimmed : He.DefD := ⟨("trimmed", none), "trimmed", "trimmed", defArgs s_trimmed, defBody s_trimmed, defScope s_trimmed, [], []⟩
abbrev s_onto_counts : Stmt := top 20
def d_onto_counts : He.DefD := ⟨("onto_counts", none), "onto_counts", "onto_counts", defArgs s_onto_counts, defBody s_onto_counts, defScope s_onto_counts, [], []⟩
abbrev s_order_polynomial : Stmt := top 21
def d_order_polynomial : He.DefD := ⟨("order_polynomial", none), "order_polynomial", "order_polynomial", defArgs s_order_polynomial, defBody s_order_polynomial, defScope s_order_polynomial, [], []⟩
abbrev s_strict_polynomial : Stmt := top 22
def d_strict_polynomial : He.DefD := ⟨("strict_polynomial", none), "strict_polynomial", "strict_polynomial", defArgs s_strict_polynomial, defBody s_strict_polynomial, defScope s_strict_polynomial, [], []⟩
abbrev s_binomial : Stmt := top 16
def d_binomial : He.DefD := ⟨("binomial", none), "binomial", "binomial", defArgs s_binomial, defBody s_binomial, defScope s_binomial, [], []⟩
abbrev s_value_at : Stmt := top 17
def d_value_at : He.DefD := ⟨("value_at", none), "value_at", "value_at", defArgs s_value_at, defBody s_value_at, defScope s_value_at, [], []⟩
abbrev s_law : Stmt := top 34
def d_law : He.DefD := ⟨("law", none), "law", "law", defArgs s_law, defBody s_law, defScope s_law, [], []⟩
def fn : List He.DefD := [d_law_numbers, d_law_next, d_has, d_u_closed, d_is_integer, d_u_checked_pairs, d_OrderU_initU, d_law_order, d_Order_size, d_members, d_Order_pairs, d_law_maps, d_law_counts, d_set_of, d_Order_below, d_parts, d_count, d_lower_sets, d_Order_is_antichain, d_steps_between, d_trimmed, d_onto_counts, d_order_polynomial, d_strict_polynomial, d_binomial, d_value_at, d_law]
def fa : List He.Fa := [.free "range", .free "len", .free "min", .free "abs", .glo "has", .glo "Refused", .free "super", .free "tuple", .free "isinstance", .free "int", .free "bool", .free "list", .glo "Malformed", .exc "Malformed", .glo "is_integer", .int "MOST" 10, .cls "Order", .noat "Order" "n", .glo "_closed", .glo "_checked_pairs", .noat "Order" "above", .glo "_law_next", .glo "Order", .mkr "Order", .glo "members", .meth "Order" "size", .meth "Order" "pairs", .glo "_law_maps", .glo "set_of", .meth "Order" "below", .glo "parts", .free "all", .glo "count", .free "sorted", .glo "lower_sets", .meth "Order" "is_antichain", .glo "steps_between", .glo "trimmed", .glo "onto_counts", .glo "binomial", .free "sum", .glo "_law_numbers", .glo "_law_order", .glo "_law_counts", .glo "order_polynomial", .glo "strict_polynomial", .glo "value_at", .glo "law"]
def file : Str := "/claim/cut.py"
abbrev se_Refused : Stmt := inClass (top 4) 0
def es : List DL.ExD := [⟨"Refused", "reason", "__init__", "Refused.__init__", defArgs se_Refused, defBody se_Refused, defScope se_Refused⟩]
def ys : List DL.Fy := []
end G29
namespace G29
open PySem L2 DL PyProof.Rows
def names0 : List PySem.Str := ["_wall", "Fault", "Malformed", "Refused", "is_integer", "is_set", "members", "count", "set_of", "has", "parts", "lower_sets", "binomial", "value_at", "trimmed", "steps_between", "onto_counts", "order_polynomial", "strict_polynomial", "MOST"]
def names1 : List PySem.Str := ["_checked_pairs", "_closed", "Order", "_law_numbers", "_law_next", "_law_order", "_law_maps", "_law_counts"]
def names : List PySem.Str := names0 ++ names1
abbrev R : PySem.W.OpenRow := PySem.W.OpenLaw.row PySem.Challenge.rw_orderforms_k29_whole_order_polynomials
abbrev hk : PySem.W.Hook := DL.hookY 6 file fa fn es ys
def ob (s : PySem.W.SharedT) : DL.AlY := DL.obsYG 6 file fa fn es ys (HandSHeadRun.getT s)
theorem ob_eq (s : PySem.W.SharedT) : ob s = hk.obs s.abs := DL.obsYG_eq (HandSHeadRun.getT_eq s)
theorem run (w : World) : HandSHeadRun.RunEq R (PySem.W.view R.prog [34]) hk ob 6000 names w := by
  intro os
  kernel_rfl
end G29
namespace DL
open PySem L2
def SO {α : Type} (o : Option α) (P : α → Prop) : Prop := match o with
  | some x => P x
  | none => False
@[simp] theorem so_some {α : Type} {x : α} {P : α → Prop} : SO (some x) P = P x := rfl
@[simp] theorem so_none {α : Type} {P : α → Prop} : SO none P = False := rfl
@[simp] theorem so_ite {α : Type} {c : Prop} [Decidable c] {a b : Option α} {P : α → Prop} : SO (if c then a else b) P = (if c then SO a P else SO b P) := by split <;> rfl
def WO {α : Type} (E : Exn → DL.Env → Prop) (P : α → DL.Env → Prop) : Out α → Prop
  | .ok x ρ => P x ρ
  | .ex e ρ => E e ρ
  | .st => False
abbrev NoE {β : Type} : Exn → β → Prop := fun _ _ => False
@[simp] theorem wo_ok {α : Type} {E : Exn → DL.Env → Prop} {P : α → DL.Env → Prop} {x : α} {ρ : DL.Env} : WO E P (.ok x ρ) = P x ρ := rfl
@[simp] theorem wo_ex {α : Type} {E : Exn → DL.Env → Prop} {P : α → DL.Env → Prop} {e : Exn} {ρ : DL.Env} : WO E P (.ex e ρ) = E e ρ := rfl
structure Ps where
  nx : DL.Env → Prop
  rt : D → DL.Env → Prop
  bk : DL.Env → Prop
  ct : DL.Env → Prop
  ex : Exn → DL.Env → Prop
def WP (Q : Ps) : Fl → Prop
  | .nx ρ => Q.nx ρ
  | .rt d ρ => Q.rt d ρ
  | .bk ρ => Q.bk ρ
  | .ct ρ => Q.ct ρ
  | .ex e ρ => Q.ex e ρ
  | .st => False
def WF (E : Exn → Option D → Prop) (P : D → Option D → Prop) : FR → Prop
  | .rt d io => P d io
  | .ex e io => E e io
  | .st => False
@[simp] theorem wf_rt {E : Exn → Option D → Prop} {P : D → Option D → Prop} {d : D} {io : Option D} : WF E P (.rt d io) = P d io := rfl
@[simp] theorem wf_exr {E : Exn → Option D → Prop} {P : D → Option D → Prop} {e : Exn} {io : Option D} : WF E P (.ex e io) = E e io := rfl
theorem WF.mono {E : Exn → Option D → Prop} {P R : D → Option D → Prop} {r : FR} (h : WF NoE P r) (i : ∀ d io, P d io → R d io) : WF E R r := by
  cases r with
  | rt d io => exact i d io h
  | ex e io => exact h.elim
  | st => exact h
theorem wf_eq {r : FR} {d : D} {io : Option D} (h : WF NoE (fun d' io' => d' = d ∧ io' = io) r) : r = .rt d io := by
  cases r with
  | rt d' io' => obtain ⟨a, b⟩ := h; subst a b; rfl
  | ex e io => exact h.elim
  | st => exact h.elim
theorem wf_ex {P : D → Option D → Prop} {r : FR} (h : WF NoE P r) : ∃ d io, r = .rt d io ∧ P d io := by
  cases r with
  | rt d' io' => exact ⟨_, _, rfl, h⟩
  | ex e io => exact h.elim
  | st => exact h.elim
section
variable {E : Exn → DL.Env → Prop} {P : D → DL.Env → Prop} {PB : Bool → DL.Env → Prop} {PA : List Ag → DL.Env → Prop} {PL : List D → DL.Env → Prop} {ρ : DL.Env} {i j n : Nat} {f fa fb : DL.Env → Out D} {t u : DL.Env → Out Bool} {g : DL.Env → Out (List Ag)} {x : At}
@[simp] theorem w_C : WO E P (dC x ρ) = P (.a x) ρ := rfl
@[simp] theorem w_Var : WO E P (dVar i ρ) = SO (ρ[i]?) (fun o => SO o fun d => isF d = true ∧ P d ρ) := by
  unfold dVar
  split
  · rename_i d h
    rw [h]
    split
    · rename_i h2; simp [h2]
    · rename_i h2; simp [h2, WO]
  · rename_i h
    cases e : ρ[i]? with
    | none => rfl
    | some o =>
      cases o with
      | none => rfl
      | some d => exact absurd e (h d)
@[simp] theorem w_Peek : WO E P (dPeek i ρ) = SO (ρ[i]?) (fun o => SO o fun d => P d ρ) := by
  unfold dPeek
  split
  · rename_i d h
    rw [h]; rfl
  · rename_i h
    cases e : ρ[i]? with
    | none => rfl
    | some o =>
      cases o with
      | none => rfl
      | some d => exact absurd e (h d)
@[simp] theorem w_Fz : WO E P (dFz f ρ) = WO E (fun d ρ1 => P (frz d) ρ1) (f ρ) := by
  unfold dFz; cases f ρ <;> rfl
@[simp] theorem w_Op2 {g : D → D → Option D} : WO E P (dOp2 g fa fb ρ) = WO E (fun d1 ρ1 => WO E (fun d2 ρ2 => SO (g d1 d2) fun d => P d ρ2) (fb ρ1)) (fa ρ) := by
  unfold dOp2
  cases fa ρ with
  | st => rfl
  | ex e ρ1 => rfl
  | ok d1 ρ1 =>
    dsimp only [wo_ok]
    cases fb ρ1 with
    | st => rfl
    | ex e ρ2 => rfl
    | ok d2 ρ2 =>
      dsimp only [wo_ok]
      cases g d1 d2 <;> rfl
@[simp] theorem w_U {g : D → Option D} : WO E P (dU g fa ρ) = WO E (fun d1 ρ1 => SO (g d1) fun d => P d ρ1) (fa ρ) := by
  unfold dU
  cases fa ρ with
  | st => rfl
  | ex e ρ1 => rfl
  | ok d1 ρ1 => dsimp only [wo_ok]; cases g d1 <;> rfl
def asB (d : D) (P : Bool → Prop) : Prop := match d with
  | .a (.bl b) => P b
  | _ => False
@[simp] theorem asB_bl {b : Bool} {P : Bool → Prop} : asB (.a (.bl b)) P = P b := rfl
def asI (d : D) (P : Int → Prop) : Prop := match d with
  | .a (.int b) => P b
  | _ => False
@[simp] theorem asI_int {b : Int} {P : Int → Prop} : asI (.a (.int b)) P = P b := rfl
@[simp] theorem w_B : WO E PB (dB f ρ) = WO E (fun d ρ1 => asB d fun b => PB b ρ1) (f ρ) := by
  unfold dB
  cases f ρ with
  | st => rfl
  | ex e ρ1 => rfl
  | ok d ρ1 =>
    cases d with
    | n _ _ _ => rfl
    | a x => cases x <;> rfl
@[simp] theorem w_AndT : WO E PB (dAndT t u ρ) = WO E (fun b ρ1 => if b = true then WO E PB (u ρ1) else PB false ρ1) (t ρ) := by
  unfold dAndT
  cases t ρ with
  | st => rfl
  | ex e ρ1 => rfl
  | ok b ρ1 => cases b <;> rfl
@[simp] theorem w_OrT : WO E PB (dOrT t u ρ) = WO E (fun b ρ1 => if b = true then PB true ρ1 else WO E PB (u ρ1)) (t ρ) := by
  unfold dOrT
  cases t ρ with
  | st => rfl
  | ex e ρ1 => rfl
  | ok b ρ1 => cases b <;> rfl
@[simp] theorem w_NotT : WO E PB (dNotT t ρ) = WO E (fun b ρ1 => PB (!b) ρ1) (t ρ) := by
  unfold dNotT
  cases t ρ <;> rfl
@[simp] theorem w_AndV : WO E P (dAndV fa fb ρ) = WO E (fun d ρ1 => asB d fun b => if b = true then WO E P (fb ρ1) else P (.a (.bl false)) ρ1) (fa ρ) := by
  rw [← w_B]
  unfold dAndV
  cases dB fa ρ with
  | st => rfl
  | ex e ρ1 => rfl
  | ok b ρ1 => cases b <;> rfl
@[simp] theorem w_OrV : WO E P (dOrV fa fb ρ) = WO E (fun d ρ1 => asB d fun b => if b = true then P (.a (.bl true)) ρ1 else WO E P (fb ρ1)) (fa ρ) := by
  rw [← w_B]
  unfold dOrV
  cases dB fa ρ with
  | st => rfl
  | ex e ρ1 => rfl
  | ok b ρ1 => cases b <;> rfl
@[simp] theorem w_NotV : WO E P (dNotV fa ρ) = WO E (fun d ρ1 => asB d fun b => P (.a (.bl (!b))) ρ1) (fa ρ) := by
  rw [← w_B]
  unfold dNotV
  cases dB fa ρ <;> rfl
@[simp] theorem w_IfE : WO E P (dIfE t fa fb ρ) = WO E (fun b ρ1 => if b = true then WO E P (fa ρ1) else WO E P (fb ρ1)) (t ρ) := by
  unfold dIfE
  cases t ρ with
  | st => rfl
  | ex e ρ1 => rfl
  | ok b ρ1 => cases b <;> rfl
@[simp] theorem w_ANil : WO E PA (dANil ρ) = PA [] ρ := rfl
@[simp] theorem w_ACons : WO E PA (dACons f g ρ) = WO E (fun d ρ1 => WO E (fun ds ρ2 => PA (.d d :: ds) ρ2) (g ρ1)) (f ρ) := by
  unfold dACons
  cases f ρ with
  | st => rfl
  | ex e ρ1 => rfl
  | ok d ρ1 => dsimp only [wo_ok]; cases g ρ1 <;> rfl
@[simp] theorem w_ALent : WO E PA (dALent i g ρ) = SO (ρ[i]?) (fun o => SO o fun _ => WO E (fun ds ρ2 => PA (.s i :: ds) ρ2) (g ρ)) := by
  unfold dALent
  split
  · rename_i d h
    rw [h]
    dsimp only [so_some]
    cases g ρ <;> rfl
  · rename_i h
    cases e : ρ[i]? with
    | none => rfl
    | some o =>
      cases o with
      | none => rfl
      | some d => exact absurd e (h d)
@[simp] theorem w_Tup : WO E P (dTup g ρ) = WO E (fun ds ρ1 => SO (agL ds) fun xs => xs.length ≤ cap ∧ P (.tup (frzL xs)) ρ1) (g ρ) := by
  unfold dTup
  cases g ρ with
  | st => rfl
  | ex e ρ1 => rfl
  | ok ds ρ1 =>
    dsimp only [wo_ok]
    cases agL ds with
    | none => rfl
    | some xs =>
      dsimp only [so_some]
      split
      · rename_i h; simp [h]
      · rename_i h; simp only [h, false_and]; rfl
@[simp] theorem w_Lst : WO E P (dLst g ρ) = WO E (fun ds ρ1 => SO (agL ds) fun xs => xs.length ≤ cap ∧ P (.lst true xs) ρ1) (g ρ) := by
  unfold dLst
  cases g ρ with
  | st => rfl
  | ex e ρ1 => rfl
  | ok ds ρ1 =>
    dsimp only [wo_ok]
    cases agL ds with
    | none => rfl
    | some xs =>
      dsimp only [so_some]
      split
      · rename_i h; simp [h]
      · rename_i h; simp only [h, false_and]; rfl
@[simp] theorem w_Call {F : List D → FR} : WO E P (dCall n F g ρ) = WO E (fun ds ρ1 => SO (agL ds) fun xs => xs.length = n ∧ WF (fun e _ => E e ρ1) (fun d _ => P d ρ1) (F (frzL xs))) (g ρ) := by
  unfold dCall
  cases g ρ with
  | st => rfl
  | ex e ρ1 => rfl
  | ok ds ρ1 =>
    dsimp only [wo_ok]
    cases agL ds with
    | none => rfl
    | some xs =>
      dsimp only [so_some]
      split
      · rename_i h
        simp only [h, true_and]
        cases F (frzL xs) <;> rfl
      · rename_i h; simp only [h, false_and]; rfl
@[simp] theorem w_Call0 {F : List D → FR} : WO E P (dCall0 F ρ) = WF (fun e _ => E e ρ) (fun d _ => P d ρ) (F []) := by
  unfold dCall0
  cases F [] <;> rfl
@[simp] theorem w_CallL {F : List D → FR} {kio : Option Nat} : WO E P (dCallL n kio F g ρ) = WO E (fun ds ρ1 => SO (agL1 ds) fun p => SO (ρ1[p.2.1]?) fun o => SO o fun d0 => (kio = some p.1.length ∧ p.1.length + (p.2.2.length + 1) = n) ∧ WF (fun e io => SO io fun d1 => E e (ρ1.set p.2.1 (some d1))) (fun d io => SO io fun d1 => P d (ρ1.set p.2.1 (some d1))) (F (frzL p.1 ++ (d0 :: frzL p.2.2)))) (g ρ) := by
  unfold dCallL
  cases g ρ with
  | st => rfl
  | ex e ρ1 => rfl
  | ok ds ρ1 =>
    dsimp only [wo_ok]
    cases agL1 ds with
    | none => rfl
    | some p =>
      obtain ⟨xs, i, ys⟩ := p
      dsimp only [so_some]
      cases ρ1[i]? with
      | none => rfl
      | some o =>
        cases o with
        | none => rfl
        | some d0 =>
          dsimp only [so_some]
          split
          · rename_i h
            simp only [h, and_self, true_and]
            cases F (frzL xs ++ (d0 :: frzL ys)) with
            | st => rfl
            | ex e io => cases io <;> rfl
            | rt d io => cases io <;> rfl
          · rename_i h; simp only [h, false_and]; rfl
@[simp] theorem w_Make {F : List D → FR} {C : Str} : WO E P (dMake C n F g ρ) = WO E (fun ds ρ1 => SO (agL ds) fun xs => xs.length = n ∧ WF (fun e _ => E e ρ1) (fun d io => d = .a .non ∧ SO io fun d1 => P d1 ρ1) (F (.n (.ins C []) true [] :: frzL xs))) (g ρ) := by
  unfold dMake
  cases g ρ with
  | st => rfl
  | ex e ρ1 => rfl
  | ok ds ρ1 =>
    dsimp only [wo_ok]
    cases agL ds with
    | none => rfl
    | some xs =>
      dsimp only [so_some]
      split
      · rename_i h
        simp only [h, true_and]
        cases F (.n (.ins C []) true [] :: frzL xs) with
        | st => rfl
        | ex e io => rfl
        | rt d io =>
          cases io with
          | none => cases d with
            | n _ _ _ => simp [WF, WO, SO]
            | a x => cases x <;> simp [WF, WO, SO]
          | some d1 => cases d with
            | n _ _ _ => simp [WF, WO, SO]
            | a x => cases x <;> simp [WF, WO, SO]
      · rename_i h; simp only [h, false_and]; rfl
def asIns (d : D) (P : Str → List Str → List D → Prop) : Prop := match d with
  | .n (.ins C fs) false xs => P C fs xs
  | _ => False
@[simp] theorem asIns_ins {C : Str} {fs : List Str} {xs : List D} {P : Str → List Str → List D → Prop} : asIns (.n (.ins C fs) false xs) P = P C fs xs := rfl
@[simp] theorem w_Meth {F : List D → FR} {C m : Str} : WO E P (dMeth C m n F fa g ρ) = WO E (fun d ρ1 => asIns d fun C' fs xs => (C' = C ∧ m ∉ fs ∧ isFL xs = true) ∧ WO E P (dCall n (fun ds => F (.n (.ins C fs) false xs :: ds)) g ρ1)) (fa ρ) := by
  unfold dMeth
  cases fa ρ with
  | st => rfl
  | ex e ρ1 => rfl
  | ok d ρ1 =>
    cases d with
    | a x => rfl
    | n k o xs =>
      cases k with
      | ins C' fs =>
        cases o with
        | true => rfl
        | false =>
          dsimp only [wo_ok, asIns_ins]
          split
          · rename_i h; simp only [h, and_self, true_and, not_false_eq_true]
          · rename_i h; simp only [h, false_and]; rfl
      | tup => rfl
      | lst => rfl
      | scr => rfl
      | dct ks => rfl
      | xt t => rfl
@[simp] theorem w_Iter : WO E PL (dIter f ρ) = WO E (fun d ρ1 => SO (itemsOf d) fun xs => isF d = true ∧ PL xs ρ1) (f ρ) := by
  unfold dIter
  cases f ρ with
  | st => rfl
  | ex e ρ1 => rfl
  | ok d ρ1 =>
    dsimp only [wo_ok]
    cases itemsOf d with
    | none => rfl
    | some xs =>
      dsimp only [so_some]
      split
      · rename_i h; simp [h]
      · rename_i h; simp [h, WO]
@[simp] theorem w_Rng1 : WO E PL (dRng1 f ρ) = WO E (fun d ρ1 => asI d fun j => (-1000000 ≤ j ∧ j ≤ 1000000) ∧ PL (intL 0 j.toNat) ρ1) (f ρ) := by
  unfold dRng1
  cases f ρ with
  | st => rfl
  | ex e ρ1 => rfl
  | ok d ρ1 =>
    cases d with
    | n _ _ _ => rfl
    | a x =>
      cases x with
      | int j =>
        dsimp only [wo_ok, asI_int]
        split
        · rename_i h; simp [h]
        · rename_i h; simp only [h, false_and]; rfl
      | non => rfl
      | bl b => rfl
      | str s => rfl
@[simp] theorem w_Rng2 : WO E PL (dRng2 fa fb ρ) = WO E (fun d ρ1 => asI d fun i => WO E (fun d2 ρ2 => asI d2 fun j => ((-1000000 ≤ i ∧ i ≤ 1000000) ∧ -1000000 ≤ j ∧ j ≤ 1000000) ∧ PL (intL i (j - i).toNat) ρ2) (fb ρ1)) (fa ρ) := by
  unfold dRng2
  cases fa ρ with
  | st => rfl
  | ex e ρ1 => rfl
  | ok d ρ1 =>
    cases d with
    | n _ _ _ => rfl
    | a x =>
      cases x with
      | int i =>
        dsimp only [wo_ok, asI_int]
        cases fb ρ1 with
        | st => rfl
        | ex e ρ2 => rfl
        | ok d2 ρ2 =>
          cases d2 with
          | n _ _ _ => rfl
          | a y =>
            cases y with
            | int j =>
              dsimp only [wo_ok, asI_int]
              split
              · rename_i h; simp [h]
              · rename_i h; simp only [h, false_and]; rfl
            | non => rfl
            | bl b => rfl
            | str s => rfl
      | non => rfl
      | bl b => rfl
      | str s => rfl
@[simp] theorem w_Dp : WO E P (dDp f ρ) = WO E (fun d ρ1 => isF d = true ∧ P d ρ1) (f ρ) := by
  unfold dDp
  cases f ρ with
  | st => rfl
  | ex e ρ1 => rfl
  | ok d ρ1 =>
    dsimp only [wo_ok]
    split
    · rename_i h; simp [h]
    · rename_i h; simp [h, WO]
@[simp] theorem w_IxP {q : DL.Env → Option At} : WO E P (dIxP fa q ρ) = WO E (fun x ρ1 => SO (q ρ1) fun k => SO (gIxO x (.a k)) fun d => P d ρ1) (fa ρ) := by
  unfold dIxP
  cases fa ρ with
  | st => rfl
  | ex e ρ1 => rfl
  | ok d ρ1 =>
    dsimp only [wo_ok]
    cases q ρ1 with
    | none => rfl
    | some k => dsimp only [so_some]; cases gIxO d (.a k) <;> rfl
@[simp] theorem w_IxS : WO E P (dIxS i fb ρ) = WO E (fun k ρ1 => SO (ρ1[i]?) fun o => SO o fun x => SO (gIxO x k) fun d => P d ρ1) (fb ρ) := by
  unfold dIxS
  cases fb ρ with
  | st => rfl
  | ex e ρ1 => rfl
  | ok k ρ1 =>
    dsimp only [wo_ok]
    cases ρ1[i]? with
    | none => rfl
    | some o =>
      cases o with
      | none => rfl
      | some x => dsimp only [so_some]; cases gIxO x k <;> rfl
@[simp] theorem w_IxV : WO E P (dIxV i fb ρ) = SO (ρ[i]?) (fun o => SO o fun _ => WO E (fun k ρ1 => SO (ρ1[i]?) fun o => SO o fun x => SO (gIxO x k) fun d => isF d = true ∧ P d ρ1) (fb ρ)) := by
  unfold dIxV
  split
  · rename_i y h
    rw [h]
    dsimp only [so_some]
    rw [← w_IxS]
    cases dIxS i fb ρ with
    | st => rfl
    | ex e ρ1 => rfl
    | ok d ρ1 =>
      dsimp only [wo_ok]
      split
      · rename_i h; simp [h]
      · rename_i h; simp [h, WO]
  · rename_i h
    cases e : ρ[i]? with
    | none => rfl
    | some o =>
      cases o with
      | none => rfl
      | some d => exact absurd e (h d)
@[simp] theorem w_PopAt : WO E P (dPopAt i fb ρ) = SO (ρ[i]?) (fun o => SO o fun x => (match x with | .n .lst true _ => True | _ => False) ∧ WO E (fun k ρ1 => asI k fun z => SO (ρ1[i]?) fun o => SO o fun x => (match x with
    | .n .lst true xs => (-1000000 ≤ z ∧ z ≤ 1000000) ∧ SO (seqIndex? z xs.length) fun j => SO (xs[j]?) fun d => P d (ρ1.set i (some (.lst true (xs.eraseIdx j))))
    | _ => False)) (fb ρ)) := by
  unfold dPopAt
  split
  · rename_i ys h
    rw [h]
    dsimp only [so_some]
    rw [true_and]
    cases fb ρ with
    | st => rfl
    | ex e ρ1 => rfl
    | ok k ρ1 =>
      cases k with
      | n _ _ _ => rfl
      | a y =>
        cases y with
        | int z =>
          dsimp only [wo_ok, asI_int]
          split
          · rename_i xs h2
            rw [h2]
            dsimp only [so_some]
            split
            · rename_i h3
              simp only [h3, and_self, true_and]
              cases seqIndex? z xs.length with
              | none => rfl
              | some j => dsimp only [so_some]; cases xs[j]? <;> rfl
            · rename_i h3; simp only [h3, false_and]; rfl
          · rename_i h2
            cases e : ρ1[i]? with
            | none => rfl
            | some o =>
              cases o with
              | none => rfl
              | some d =>
                cases d with
                | a x => rfl
                | n k o xs =>
                  cases k with
                  | lst => cases o with
                    | true => exact absurd e (h2 xs)
                    | false => rfl
                  | _ => rfl
        | non => rfl
        | bl b => rfl
        | str s => rfl
  · rename_i h
    cases e : ρ[i]? with
    | none => rfl
    | some o =>
      cases o with
      | none => rfl
      | some d =>
        cases d with
        | a x => simp [WO, SO]
        | n k o xs =>
          cases k with
          | lst => cases o with
            | true => exact absurd e (h xs)
            | false => simp [WO, SO]
          | _ => simp [WO, SO]
end
theorem dPart_some {f : DL.Env → Out D} {ρ : DL.Env} {P : Option Int → DL.Env → Prop} : WO E P (dPart (some f) ρ) = WO E (fun d ρ1 => asI d fun i => P (some i) ρ1) (f ρ) := by
  unfold dPart
  dsimp only
  cases f ρ with
  | st => rfl
  | ex e ρ1 => rfl
  | ok d ρ1 =>
    cases d with
    | n _ _ _ => rfl
    | a x => cases x <;> rfl
@[simp] theorem w_part0 {ρ : DL.Env} {P : Option Int → DL.Env → Prop} : WO E P (dPart none ρ) = P none ρ := rfl
@[simp] theorem w_part1 {f : DL.Env → Out D} {ρ : DL.Env} {P : Option Int → DL.Env → Prop} : WO E P (dPart (some f) ρ) = WO E (fun d ρ1 => asI d fun i => P (some i) ρ1) (f ρ) := dPart_some
@[simp] theorem w_Sl {P : D → DL.Env → Prop} {fa : DL.Env → Out D} {lo hi : Option (DL.Env → Out D)} {ρ : DL.Env} : WO E P (dSl fa lo hi ρ) = WO E (fun x ρ1 => WO E (fun l ρ2 => WO E (fun u ρ3 => SO (gSl x l u) fun d => P d ρ3) (dPart hi ρ2)) (dPart lo ρ1)) (fa ρ) := by
  unfold dSl
  cases fa ρ with
  | st => rfl
  | ex e ρ1 => rfl
  | ok x ρ1 =>
    dsimp only [wo_ok]
    cases dPart lo ρ1 with
    | st => rfl
    | ex e ρ2 => rfl
    | ok l ρ2 =>
      dsimp only [wo_ok]
      cases dPart hi ρ2 with
      | st => rfl
      | ex e ρ3 => rfl
      | ok u ρ3 => dsimp only [wo_ok]; cases gSl x l u <;> rfl
@[simp] theorem w_Lc {P : D → DL.Env → Prop} {vs : List Nat} {src : DL.Env → Out (List D)} {g : D → DL.Env → Option DL.Env} {t : DL.Env → Out Bool} {f : DL.Env → Out D} {ρ : DL.Env} :
    WO E P (dLc vs src g t f ρ) = WO E (fun ds ρ1 => ds.length ≤ cap ∧ WO NoE (fun ys ρ2 => P (.lst true ys) (backE ρ1 vs (wipeE ρ2 vs))) (lcL vs g t f ds (wipeE ρ1 vs))) (src ρ) := by
  unfold dLc
  cases src ρ with
  | st => rfl
  | ex e ρ1 => rfl
  | ok ds ρ1 =>
    dsimp only [wo_ok]
    split
    · rename_i h
      simp only [h, true_and]
      cases lcL vs g t f ds (wipeE ρ1 vs) <;> rfl
    · rename_i h; simp only [h, false_and]; rfl
theorem lcL_run {vs : List Nat} {g : D → DL.Env → Option DL.Env} {t : DL.Env → Out Bool} {f : DL.Env → Out D} {ρ : DL.Env} (tb : D → Bool) (fv : D → D) : ∀ (ds : List D),
    (∀ d ∈ ds, SO (g d ρ) fun ρ1 => WO NoE (fun b ρ2 => b = tb d ∧ (if tb d = true then WO NoE (fun y ρ3 => y = fv d ∧ wipeE ρ3 vs = ρ) (f ρ2) else wipeE ρ2 vs = ρ)) (t ρ1)) →
    lcL vs g t f ds ρ = .ok ((ds.filter tb).map fv) ρ
  | [], _ => rfl
  | d :: ds, h => by
    have ih := lcL_run tb fv ds fun e he => h e (List.mem_cons_of_mem _ he)
    have h0 := h d (by simp)
    unfold lcL
    cases hg : g d ρ with
    | none => rw [hg] at h0; exact h0.elim
    | some ρ1 =>
      rw [hg] at h0
      dsimp only [so_some] at h0 ⊢
      cases ht : t ρ1 with
      | st => rw [ht] at h0; exact h0.elim
      | ex e ρ2 => rw [ht] at h0; exact h0.elim
      | ok b ρ2 =>
        rw [ht] at h0
        obtain ⟨e1, h1⟩ := h0
        subst e1
        cases hb : tb d with
        | false =>
          rw [hb, if_neg Bool.false_ne_true] at h1
          dsimp only
          rw [h1, ih, List.filter_cons, hb]
          rfl
        | true =>
          rw [hb, if_pos rfl] at h1
          dsimp only
          cases hf : f ρ2 with
          | st => rw [hf] at h1; exact h1.elim
          | ex e ρ3 => rw [hf] at h1; exact h1.elim
          | ok y ρ3 =>
            rw [hf] at h1
            obtain ⟨e2, e3⟩ := h1
            subst e2
            dsimp only
            rw [e3, ih, List.filter_cons, hb]
            rfl
section
variable {Q : Ps} {ρ : DL.Env} {i j n : Nat} {f g : DL.Env → Fl} {fa fb : DL.Env → Out D} {t : DL.Env → Out Bool} {d : D}
@[simp] theorem p_nx : WP Q (.nx ρ) = Q.nx ρ := rfl
@[simp] theorem p_rt : WP Q (.rt d ρ) = Q.rt d ρ := rfl
@[simp] theorem p_Next : WP Q (dNext ρ) = Q.nx ρ := rfl
@[simp] theorem p_Break : WP Q (dBreak ρ) = Q.bk ρ := rfl
@[simp] theorem p_Cont : WP Q (dCont ρ) = Q.ct ρ := rfl
@[simp] theorem p_No : WP Q (dNo ρ) = False := rfl
@[simp] theorem p_Seq : WP Q (dSeq f g ρ) = WP ⟨fun ρ1 => WP Q (g ρ1), Q.rt, Q.bk, Q.ct, Q.ex⟩ (f ρ) := by
  unfold dSeq; cases f ρ <;> rfl
@[simp] theorem p_Bind {h : D → DL.Env → Fl} : WP Q (dBind fa h ρ) = WO Q.ex (fun d ρ1 => WP Q (h d ρ1)) (fa ρ) := by
  unfold dBind; cases fa ρ <;> rfl
@[simp] theorem p_If : WP Q (dIf t f g ρ) = WO Q.ex (fun b ρ1 => if b = true then WP Q (f ρ1) else WP Q (g ρ1)) (t ρ) := by
  unfold dIf
  cases t ρ with
  | st => rfl
  | ex e ρ1 => rfl
  | ok b ρ1 => cases b <;> rfl
@[simp] theorem p_Set : WP Q (stSet i d ρ) = (i < ρ.length ∧ Q.nx (ρ.set i (some d))) := by
  unfold stSet
  split
  · rename_i h; simp [h]
  · rename_i h; simp only [h, false_and]; rfl
@[simp] theorem p_RetMv : WP Q (dRetMv i ρ) = SO (ρ[i]?) (fun o => SO o fun d => Q.rt d (ρ.set i none)) := by
  unfold dRetMv
  split
  · rename_i d h; rw [h]; rfl
  · rename_i h
    cases e : ρ[i]? with
    | none => rfl
    | some o =>
      cases o with
      | none => rfl
      | some d => exact absurd e (h d)
def asL (d : D) (P : List D → Prop) : Prop := match d with
  | .n .lst true xs => P xs
  | _ => False
@[simp] theorem asL_lst {xs : List D} {P : List D → Prop} : asL (.n .lst true xs) P = P xs := rfl
theorem asL_cases {d : D} {P : List D → Prop} (h : ∀ xs, d ≠ .n .lst true xs) : asL d P = False := by
  cases d with
  | a x => rfl
  | n k o xs =>
    cases k with
    | lst => cases o with
      | true => exact absurd rfl (h xs)
      | false => rfl
    | _ => rfl
@[simp] theorem p_App : WP Q (stApp i d ρ) = SO (ρ[i]?) (fun o => SO o fun x => asL x fun xs => xs.length < cap ∧ Q.nx (ρ.set i (some (.lst true (xs ++ [d]))))) := by
  unfold stApp
  split
  · rename_i xs h
    rw [h]
    dsimp only [so_some, asL_lst]
    split
    · rename_i h; simp [h]
    · rename_i h; simp only [h, false_and]; rfl
  · rename_i h
    cases e : ρ[i]? with
    | none => rfl
    | some o =>
      cases o with
      | none => rfl
      | some d =>
        dsimp only [so_some]
        rw [asL_cases fun xs z => h xs (by rw [e, z])]
        rfl
@[simp] theorem p_Sub : WP Q (stSub i fb d ρ) = SO (ρ[i]?) (fun o => SO o fun x => asL x fun _ => WO Q.ex (fun k ρ2 => asI k fun z => SO (ρ2[i]?) fun o => SO o fun x => asL x fun xs => SO (ixN xs.length z) fun j => Q.nx (ρ2.set i (some (.lst true (xs.set j d))))) (fb ρ)) := by
  unfold stSub
  split
  · rename_i ys h
    rw [h]
    dsimp only [so_some, asL_lst]
    cases fb ρ with
    | st => rfl
    | ex e ρ1 => rfl
    | ok k ρ1 =>
      cases k with
      | n _ _ _ => rfl
      | a y =>
        cases y with
        | int z =>
          dsimp only [wo_ok, asI_int]
          split
          · rename_i xs h2
            rw [h2]
            dsimp only [so_some, asL_lst]
            cases ixN xs.length z <;> rfl
          · rename_i h2
            cases e : ρ1[i]? with
            | none => rfl
            | some o =>
              cases o with
              | none => rfl
              | some d =>
                dsimp only [so_some]
                rw [asL_cases fun xs z => h2 xs (by rw [e, z])]
                rfl
        | non => rfl
        | bl b => rfl
        | str s => rfl
  · rename_i h
    cases e : ρ[i]? with
    | none => rfl
    | some o =>
      cases o with
      | none => rfl
      | some d =>
        dsimp only [so_some]
        rw [asL_cases fun xs z => h xs (by rw [e, z])]
        rfl
@[simp] theorem p_Tg {g : D → DL.Env → Option DL.Env} : WP Q (stTg g d ρ) = SO (g d ρ) Q.nx := by
  unfold stTg; cases g d ρ <;> rfl
@[simp] theorem s_tg1 {P : DL.Env → Prop} : SO (tg1 i d ρ) P = (i < ρ.length ∧ P (ρ.set i (some d))) := by
  unfold tg1
  split
  · rename_i h; simp [h]
  · rename_i h; simp [h]
@[simp] theorem tgT_tup {is : List Nat} {o : Bool} {xs : List D} : tgT is (.n .tup o xs) ρ = tgL is xs ρ := rfl
@[simp] theorem tgL_nil : tgL [] [] ρ = some ρ := rfl
@[simp] theorem s_tgL {P : DL.Env → Prop} {is : List Nat} {ds : List D} : SO (tgL (i :: is) (d :: ds) ρ) P = (i < ρ.length ∧ SO (tgL is ds (ρ.set i (some d))) P) := by
  conv => lhs; unfold tgL
  split
  · rename_i h; simp [h]
  · rename_i h; simp [h]
@[simp] theorem p_Has : WP Q (dHas i f ρ) = SO (ρ[i]?) (fun o => SO o fun x => (match x with | .n .lst _ _ => True | _ => False) ∧ WP Q (f ρ)) := by
  unfold dHas
  split
  · rename_i o xs h
    rw [h]
    simp
  · rename_i h
    cases e : ρ[i]? with
    | none => rfl
    | some o =>
      cases o with
      | none => rfl
      | some d =>
        cases d with
        | a x => simp [WP, SO]
        | n k o xs =>
          cases k with
          | lst => exact absurd e (h o xs)
          | _ => simp [WP, SO]
def frzAt (i : Nat) (ρ : DL.Env) : DL.Env := match ρ[i]? with
  | some (some d) => ρ.set i (some (frz d))
  | _ => ρ
@[simp] theorem frzAt_some {d : D} (h : ρ[i]? = some (some d)) : frzAt i ρ = ρ.set i (some (frz d)) := by
  unfold frzAt; rw [h]
@[simp] theorem frzAt_none (h : ρ[i]? = some none) : frzAt i ρ = ρ := by
  unfold frzAt; rw [h]
@[simp] theorem p_Frz : WP Q (dFrz i f ρ) = WP ⟨fun ρ1 => Q.nx (frzAt i ρ1), Q.rt, Q.bk, Q.ct, Q.ex⟩ (f ρ) := by
  unfold dFrz
  rw [p_Seq]
  congr 2
  funext ρ1
  unfold frzAt
  cases e : ρ1[i]? with
  | none => simp
  | some o => cases o <;> simp
@[simp] theorem p_Fld {C x : Str} : WP Q (stFld C x i d ρ) = SO (ρ[i]?) (fun o => SO o fun y => (match y with
    | .n (.ins C' fs) true xs => (C' = C ∧ x ∉ fs ∧ xs.length < 900) ∧ Q.nx (ρ.set i (some (.n (.ins C (fs ++ [x])) true (xs ++ [d]))))
    | _ => False)) := by
  unfold stFld
  split
  · rename_i C' fs xs h
    rw [h]
    dsimp only [so_some]
    split
    · rename_i h; simp only [h, and_self, true_and, not_false_eq_true]; rfl
    · rename_i h; simp only [h, false_and]; rfl
  · rename_i h
    cases e : ρ[i]? with
    | none => rfl
    | some o =>
      cases o with
      | none => rfl
      | some d =>
        cases d with
        | a x => rfl
        | n k o xs =>
          cases k with
          | ins C' fs => cases o with
            | true => exact absurd e (h C' fs xs)
            | false => rfl
          | _ => rfl
@[simp] theorem p_For {src : DL.Env → Out (List D)} {g : D → DL.Env → Option DL.Env} : WP Q (dFor src g f ρ) = WO Q.ex (fun ds ρ1 => WP Q (forL g f ds ρ1)) (src ρ) := by
  unfold dFor; cases src ρ <;> rfl
theorem wp_for {g : D → DL.Env → Option DL.Env} {ds : List D} (I : Nat → DL.Env → Prop) (h0 : I 0 ρ)
    (hs : ∀ i d ρ, ds[i]? = some d → I i ρ → SO (g d ρ) fun ρ1 => WP ⟨I (i + 1), Q.rt, Q.nx, I (i + 1), Q.ex⟩ (f ρ1)) (he : ∀ ρ, I ds.length ρ → Q.nx ρ) : WP Q (forL g f ds ρ) := by
  have key : ∀ (es : List D) (k : Nat) (ρ : DL.Env), (∀ i, es[i]? = ds[k + i]?) → k + es.length = ds.length → I k ρ → WP Q (forL g f es ρ) := by
    intro es
    induction es with
    | nil =>
      intro k ρ _ hl hI
      have : k = ds.length := by simpa using hl
      subst this
      exact he ρ hI
    | cons d es ih =>
      intro k ρ hd hl hI
      have h1 : ds[k]? = some d := by
        have := hd 0
        simpa using this.symm
      have h2 := hs k d ρ h1 hI
      have nxt : ∀ ρ2, I (k + 1) ρ2 → WP Q (forL g f es ρ2) := fun ρ2 hI2 => ih (k + 1) ρ2 (fun i => by
        have := hd (i + 1)
        rw [List.getElem?_cons_succ] at this
        rw [this]
        congr 1
        omega) (by simp at hl; omega) hI2
      unfold forL
      cases hg : g d ρ with
      | none => rw [hg] at h2; exact h2.elim
      | some ρ1 =>
        rw [hg] at h2
        dsimp only [so_some] at h2 ⊢
        cases hb : f ρ1 with
        | nx ρ2 => rw [hb] at h2; exact nxt ρ2 h2
        | ct ρ2 => rw [hb] at h2; exact nxt ρ2 h2
        | bk ρ2 => rw [hb] at h2; exact h2
        | rt d ρ2 => rw [hb] at h2; exact h2
        | ex e ρ2 => rw [hb] at h2; exact h2
        | st => rw [hb] at h2; exact h2
  exact key ds 0 ρ (fun i => by rw [Nat.zero_add]) (by omega) h0
end
theorem wf_fn {n : Nat} {kio : Option Nat} {body : DL.Env → Fl} {ds : List D} {E : Exn → Option D → Prop} {P : D → Option D → Prop} : WF E P (fnD n kio body ds) = WP ⟨fun ρ => P .non (ioOf kio ρ), fun d ρ => P d (ioOf kio ρ), fun _ => False, fun _ => False, fun e ρ => E e (ioOf kio ρ)⟩ (body (ds.map some ++ List.replicate (n - ds.length) none)) := by
  unfold fnD
  cases body (ds.map some ++ List.replicate (n - ds.length) none) <;> rfl
section
variable {i j : Int} {a b : Bool} {P : D → Prop}
@[simp] theorem o_add : SO (gAdd (.a (.int i)) (.a (.int j))) P = P (.a (.int (i + j))) := rfl
@[simp] theorem o_sub : SO (gSub (.a (.int i)) (.a (.int j))) P = P (.a (.int (i - j))) := rfl
@[simp] theorem o_mul : SO (gMul (.a (.int i)) (.a (.int j))) P = (mulOk i j = true ∧ P (.a (.int (i * j)))) := by
  unfold gMul gOr gMulI gII
  cases h : mulOk i j <;> simp [h, gRep]
@[simp] theorem o_fdiv : SO (gFdiv (.a (.int i)) (.a (.int j))) P = (divOk i j = true ∧ P (.a (.int (i / j)))) := by
  unfold gFdiv gII
  cases h : divOk i j <;> simp [h]
@[simp] theorem o_mod : SO (gMod (.a (.int i)) (.a (.int j))) P = (0 < j ∧ P (.a (.int (i % j)))) := by
  unfold gMod gII
  by_cases h : 0 < j <;> simp [h]
@[simp] theorem o_shl : SO (gShl (.a (.int i)) (.a (.int j))) P = (powOk i j = true ∧ P (.a (.int (i * 2 ^ j.toNat)))) := by
  unfold gShl gII
  cases h : powOk i j <;> simp [h]
@[simp] theorem o_shr : SO (gShr (.a (.int i)) (.a (.int j))) P = (0 ≤ j ∧ P (.a (.int (i / 2 ^ j.toNat)))) := by
  unfold gShr gII
  by_cases h : 0 ≤ j <;> simp [h]
@[simp] theorem o_and : SO (gAnd (.a (.int i)) (.a (.int j))) P = P (.a (.int (Builtin.bitAnd i j))) := rfl
@[simp] theorem o_or : SO (gOrB (.a (.int i)) (.a (.int j))) P = P (.a (.int (Builtin.bitOr i j))) := rfl
@[simp] theorem o_lt : SO (gLt (.a (.int i)) (.a (.int j))) P = P (.a (.bl (decide (i < j)))) := rfl
@[simp] theorem o_le : SO (gLe (.a (.int i)) (.a (.int j))) P = P (.a (.bl (decide (i ≤ j)))) := rfl
@[simp] theorem o_gt : SO (gGt (.a (.int i)) (.a (.int j))) P = P (.a (.bl (decide (j < i)))) := rfl
@[simp] theorem o_ge : SO (gGe (.a (.int i)) (.a (.int j))) P = P (.a (.bl (decide (j ≤ i)))) := rfl
@[simp] theorem o_eqI : SO (gEq (.a (.int i)) (.a (.int j))) P = P (.a (.bl (decide (i = j)))) := by
  show P (.a (.bl (decide (At.int i = At.int j)))) = _
  congr 3
  simp
@[simp] theorem o_neI : SO (gNe (.a (.int i)) (.a (.int j))) P = P (.a (.bl (!decide (i = j)))) := by
  show P (.a (.bl (!decide (At.int i = At.int j)))) = _
  congr 4
  simp
@[simp] theorem o_eqB : SO (gEq (.a (.bl a)) (.a (.bl b))) P = P (.a (.bl (decide (a = b)))) := by
  show P (.a (.bl (decide (At.bl a = At.bl b)))) = _
  congr 3
  simp
@[simp] theorem o_neB : SO (gNe (.a (.bl a)) (.a (.bl b))) P = P (.a (.bl (!decide (a = b)))) := by
  show P (.a (.bl (!decide (At.bl a = At.bl b)))) = _
  congr 4
  simp
@[simp] theorem o_abs : SO (gAbs (.a (.int i))) P = P (.a (.int (if i < 0 then -i else i))) := rfl
@[simp] theorem o_neg : SO (gNeg (.a (.int i))) P = P (.a (.int (-i))) := rfl
@[simp] theorem o_int : SO (gInt (.a (.int i))) P = P (.a (.int i)) := rfl
@[simp] theorem o_bits : SO (gBits (.a (.int i))) P = P (.a (.int (Builtin.Int.intBits i : Nat))) := rfl
@[simp] theorem o_lenL {o : Bool} {xs : List D} : SO (gLen (.n .lst o xs)) P = P (.a (.int xs.length)) := rfl
@[simp] theorem o_lenT {o : Bool} {xs : List D} : SO (gLen (.n .tup o xs)) P = P (.a (.int xs.length)) := rfl
@[simp] theorem o_tupT {o : Bool} {xs : List D} : SO (gTuple (.n .tup o xs)) P = P (.tup xs) := rfl
@[simp] theorem o_tupL {o : Bool} {xs : List D} : SO (gTuple (.n .lst o xs)) P = (isFL xs = true ∧ P (.tup xs)) := by
  unfold gTuple
  cases h : isFL xs <;> simp [h]
@[simp] theorem o_isi {T : String} {d : D} {t : String} (h : tyN d = some t) : SO (gIsi T d) P = P (.a (.bl (isiT t T))) := by
  unfold gIsi
  rw [h]; rfl
@[simp] theorem o_lrng : SO (gLRng (.a (.int i))) P = ((-4611686018427387904 ≤ i ∧ i ≤ 16777216) ∧ P (.lst true (intL 0 i.toNat))) := by
  unfold gLRng
  by_cases h : -4611686018427387904 ≤ i ∧ i ≤ 16777216 <;> simp [h]
end
@[simp] theorem isFL_nil : isFL [] = true := rfl
@[simp] theorem isFL_cons {x : D} {xs : List D} : isFL (x :: xs) = (isF x && isFL xs) := rfl
@[simp] theorem isF_a {x : At} : isF (.a x) = true := rfl
@[simp] theorem isF_n {k : Kd} {o : Bool} {xs : List D} : isF (.n k o xs) = (!o && isFL xs) := rfl
theorem isFL_all : ∀ {xs : List D}, isFL xs = true ↔ ∀ x ∈ xs, isF x = true
  | [] => by simp
  | x :: xs => by simp [isFL_all (xs := xs)]
@[simp] theorem isFL_map {α : Type} {f : α → D} {l : List α} (h : ∀ x, isF (f x) = true) : isFL (l.map f) = true := isFL_all.mpr fun x hx => by
  obtain ⟨y, _, e⟩ := List.mem_map.mp hx
  rw [← e]; exact h y
@[simp] theorem frzL_nil : frzL [] = [] := rfl
@[simp] theorem frzL_cons {x : D} {xs : List D} : frzL (x :: xs) = frz x :: frzL xs := rfl
@[simp] theorem frzL_map {α : Type} {f : α → D} {l : List α} (h : ∀ x, isF (f x) = true) : frzL (l.map f) = l.map f := frzL_isFL _ (isFL_map h)
@[simp] theorem frzL_ints {l : List Int} : frzL (l.map D.int) = l.map D.int := frzL_map fun _ => rfl
@[simp] theorem isFL_ints {l : List Int} : isFL (l.map D.int) = true := isFL_map fun _ => rfl
@[simp] theorem capv : cap = 1000000 := rfl
@[simp] theorem frz_a {x : At} : frz (.a x) = .a x := rfl
@[simp] theorem frz_n {k : Kd} {o : Bool} {xs : List D} : frz (.n k o xs) = .n k false (frzL xs) := rfl
@[simp] theorem agL_nil : agL [] = some [] := rfl
@[simp] theorem agL_cons {x : D} {xs : List Ag} : agL (.d x :: xs) = (agL xs).map (x :: ·) := rfl
@[simp] theorem agL1_s {i : Nat} {xs : List Ag} : agL1 (.s i :: xs) = (agL xs).map fun p => ([], i, p) := rfl
@[simp] theorem agL1_d {x : D} {xs : List Ag} : agL1 (.d x :: xs) = (agL1 xs).map fun p => (x :: p.1, p.2) := rfl
@[simp] theorem q_C {x : At} {ρ : DL.Env} : qC x ρ = some x := rfl
section
variable {Q : Ps} {ρ : DL.Env} {C f : Str} {ok : At → Bool} {e : Exn}
@[simp] theorem p_exr : WP Q (.ex e ρ) = Q.ex e ρ := rfl
@[simp] theorem p_Raise : WP Q (dRaise C ρ) = Q.ex ⟨C, []⟩ ρ := rfl
@[simp] theorem p_stRaise {x : At} : WP Q (stRaise C f ok (.a x) ρ) = (ok x = true ∧ Q.ex ⟨C, [(f, x)]⟩ ρ) := by
  unfold stRaise
  cases h : ok x <;> simp [h, WP]
@[simp] theorem p_Try {b : DL.Env → Fl} {hs : List Hd} : WP Q (dTry b hs ρ) = WP ⟨Q.nx, Q.rt, Q.bk, Q.ct, fun e ρ1 => WP Q (dCatch hs e ρ1)⟩ (b ρ) := by
  unfold dTry
  cases b ρ <;> rfl
@[simp] theorem p_catch0 : WP Q (dCatch [] e ρ) = Q.ex e ρ := rfl
@[simp] theorem p_hRet {i : Nat} {g : Exn → Option At} : WP Q (hRet i g e ρ) = SO (g e) fun x => i < ρ.length ∧ Q.rt (.a x) (ρ.set i none) := by
  unfold hRet
  cases g e with
  | none => rfl
  | some x =>
    dsimp only [so_some]
    split
    · rename_i h; simp [h]
    · rename_i h; simp [h, WP]
end
@[simp] theorem sF_one {C f : Str} {x : At} : sF C f ⟨C, [(f, x)]⟩ = some x := by simp [sF, List.lookup]
@[simp] theorem o_eqS {a b : Str} {P : D → Prop} : SO (gEq (.a (.str a)) (.a (.str b))) P = P (.a (.bl (decide (a = b)))) := by
  show P (.a (.bl (decide (At.str a = At.str b)))) = _
  congr 3
  simp
@[simp] theorem o_neS {a b : Str} {P : D → Prop} : SO (gNe (.a (.str a)) (.a (.str b))) P = P (.a (.bl (!decide (a = b)))) := by
  show P (.a (.bl (!decide (At.str a = At.str b)))) = _
  congr 4
  simp
@[simp] theorem o_isiA_ins {C C' : Str} {fs : List Str} {o : Bool} {xs : List D} {P : D → Prop} : SO (gIsiA C (.n (.ins C' fs) o xs)) P = (C' = C ∧ P (.a (.bl true))) := by
  unfold gIsiA
  by_cases h : C' = C <;> simp [h]
section
variable {E : Exn → DL.Env → Prop} {P : D → DL.Env → Prop} {PL : List D → DL.Env → Prop} {fa fb : DL.Env → Out D} {ρ : DL.Env} {Q : Ps} {i : Nat}
def asLst (d : D) (P : Bool → List D → Prop) : Prop := match d with
  | .n .lst o xs => P o xs
  | _ => False
@[simp] theorem asLst_lst {o : Bool} {xs : List D} {P : Bool → List D → Prop} : asLst (.n .lst o xs) P = P o xs := rfl
@[simp] theorem w_IndexL : WO E P (dIndexL fa fb ρ) = WO E (fun d1 ρ1 => asLst d1 fun o xs => WO E (fun d2 ρ2 => SO (gIndexL (.n .lst o xs) d2) fun d => P d ρ2) (fb ρ1)) (fa ρ) := by
  unfold dIndexL
  cases fa ρ with
  | st => rfl
  | ex e ρ1 => rfl
  | ok d1 ρ1 =>
    cases d1 with
    | a x => rfl
    | n k o xs =>
      cases k with
      | lst =>
        dsimp only [wo_ok, asLst_lst]
        cases fb ρ1 with
        | st => rfl
        | ex e ρ2 => rfl
        | ok d2 ρ2 =>
          dsimp only [wo_ok]
          cases gIndexL (.n .lst o xs) d2 <;> rfl
      | _ => rfl
@[simp] theorem w_RngD : WO E PL (dRngD fa fb ρ) = WO E (fun d ρ1 => asI d fun i => WO E (fun d2 ρ2 => asI d2 fun j => ((-1000000 ≤ i ∧ i ≤ 1000000) ∧ -1000000 ≤ j ∧ j ≤ 1000000) ∧ PL (intsC i (-1) (i - j).toNat) ρ2) (fb ρ1)) (fa ρ) := by
  unfold dRngD
  cases fa ρ with
  | st => rfl
  | ex e ρ1 => rfl
  | ok d ρ1 =>
    cases d with
    | n _ _ _ => rfl
    | a x =>
      cases x with
      | int i =>
        dsimp only [wo_ok, asI_int]
        cases fb ρ1 with
        | st => rfl
        | ex e ρ2 => rfl
        | ok d2 ρ2 =>
          cases d2 with
          | n _ _ _ => rfl
          | a y =>
            cases y with
            | int j =>
              dsimp only [wo_ok, asI_int]
              split
              · rename_i h; simp [h]
              · rename_i h; simp only [h, false_and]; rfl
            | non => rfl
            | bl b => rfl
            | str s => rfl
      | non => rfl
      | bl b => rfl
      | str s => rfl
@[simp] theorem p_Aug {h : Int → Int → Int} : WP Q (dAug i h fa ρ) = SO (ρ[i]?) (fun o => SO o fun x => asI x fun a => WO Q.ex (fun d ρ1 => asI d fun b => i < ρ1.length ∧ Q.nx (ρ1.set i (some (.a (.int (h a b)))))) (fa ρ)) := by
  unfold dAug
  cases e : ρ[i]? with
  | none => rfl
  | some o =>
    cases o with
    | none => rfl
    | some d =>
      cases d with
      | n _ _ _ => rfl
      | a x =>
        cases x with
        | int a =>
          dsimp only [so_some, asI_int]
          cases fa ρ with
          | st => rfl
          | ex e ρ1 => rfl
          | ok d ρ1 =>
            cases d with
            | n _ _ _ => rfl
            | a y =>
              cases y with
              | int b =>
                dsimp only [wo_ok, asI_int]
                exact p_Set
              | non => rfl
              | bl b => rfl
              | str s => rfl
        | non => rfl
        | bl b => rfl
        | str s => rfl
end
@[simp] theorem o_lenO_lst {C : Str} {F : List D → FR} {o : Bool} {xs : List D} {P : D → Prop} : SO (gLenO C F (.n .lst o xs)) P = P (.a (.int xs.length)) := rfl
@[simp] theorem o_lenO_tup {C : Str} {F : List D → FR} {o : Bool} {xs : List D} {P : D → Prop} : SO (gLenO C F (.n .tup o xs)) P = P (.a (.int xs.length)) := rfl
@[simp] theorem s_tgP2 {g1 g2 : D → DL.Env → Option DL.Env} {o : Bool} {a b : D} {ρ : DL.Env} {P : DL.Env → Prop} : SO (tgP g1 g2 (.n .tup o [a, b]) ρ) P = SO (g1 a ρ) fun ρ1 => SO (g2 b ρ1) P := by
  rw [s_tgP]
  cases g1 a ρ <;> rfl
section
variable {E : Exn → DL.Env → Prop} {P : D → DL.Env → Prop} {fa fb : DL.Env → Out D} {ρ : DL.Env} {C : Str} {F : List D → FR}
@[simp] theorem w_BinO : WO E P (dBinO C F fa fb ρ) = WO E (fun d ρ1 => asIns d fun C1 fs xs => (C1 = C ∧ isFL xs = true) ∧ WO E (fun d2 ρ2 => asIns d2 fun C2 gs ys => (C2 = C ∧ isFL ys = true) ∧ WF (fun e _ => E e ρ2) (fun d _ => P d ρ2) (F [.n (.ins C1 fs) false xs, .n (.ins C2 gs) false ys])) (fb ρ1)) (fa ρ) := by
  unfold dBinO
  cases fa ρ with
  | st => rfl
  | ex e ρ1 => rfl
  | ok d ρ1 =>
    cases d with
    | a x => rfl
    | n k o xs =>
      cases k with
      | ins C1 fs =>
        cases o with
        | true => rfl
        | false =>
          dsimp only [wo_ok, asIns_ins]
          split
          · rename_i h
            simp only [h, and_self, true_and]
            cases fb ρ1 with
            | st => rfl
            | ex e ρ2 => rfl
            | ok d2 ρ2 =>
              cases d2 with
              | a x => rfl
              | n k o ys =>
                cases k with
                | ins C2 gs =>
                  cases o with
                  | true => rfl
                  | false =>
                    dsimp only [wo_ok, asIns_ins]
                    split
                    · rename_i h2
                      simp only [h2, and_self, true_and]
                      cases F _ <;> rfl
                    · rename_i h2; simp only [h2, false_and]; rfl
                | tup => rfl
                | lst => rfl
                | scr => rfl
                | dct ks => rfl
                | xt t => rfl
          · rename_i h; simp only [h, false_and]; rfl
      | tup => rfl
      | lst => rfl
      | scr => rfl
      | dct ks => rfl
      | xt t => rfl
@[simp] theorem w_NegO : WO E P (dNegO C F fa ρ) = WO E (fun d ρ1 => asIns d fun C1 fs xs => (C1 = C ∧ isFL xs = true) ∧ WF (fun e _ => E e ρ1) (fun d _ => P d ρ1) (F [.n (.ins C1 fs) false xs])) (fa ρ) := by
  unfold dNegO
  cases fa ρ with
  | st => rfl
  | ex e ρ1 => rfl
  | ok d ρ1 =>
    cases d with
    | a x => rfl
    | n k o xs =>
      cases k with
      | ins C1 fs =>
        cases o with
        | true => rfl
        | false =>
          dsimp only [wo_ok, asIns_ins]
          split
          · rename_i h
            simp only [h, and_self, true_and]
            cases F _ <;> rfl
          · rename_i h; simp only [h, false_and]; rfl
      | tup => rfl
      | lst => rfl
      | scr => rfl
      | dct ks => rfl
      | xt t => rfl
end
section
variable {E : Exn → DL.Env → Prop} {P : D → DL.Env → Prop} {fa fb fc : DL.Env → Out D} {ρ : DL.Env} {Q : Ps} {i k : Nat} {is : List Nat}
@[simp] theorem w_Tmp : WO E P (dTmp is fa ρ) = WO (fun e _ => E e ρ) (fun d _ => noL d = true ∧ P d ρ) (fa (tmpE is 0 ρ)) := by
  unfold dTmp
  cases fa (tmpE is 0 ρ) with
  | st => rfl
  | ex e ρ1 => rfl
  | ok d ρ1 =>
    dsimp only [wo_ok]
    split
    · rename_i h; simp [h]
    · rename_i h; simp [h, WO]
@[simp] theorem tmpE_nil : tmpE is k [] = [] := rfl
@[simp] theorem tmpE_none : tmpE is k (none :: ρ) = none :: tmpE is (k + 1) ρ := rfl
@[simp] theorem tmpE_some {d : D} : tmpE is k (some d :: ρ) = (if k ∈ is ∧ okO d = true then some (frz d) else if isF d = true then some d else none) :: tmpE is (k + 1) ρ := rfl
@[simp] theorem okO_a {x : At} : okO (.a x) = true := rfl
@[simp] theorem okO_lst' {o : Bool} {xs : List D} : okO (.n .lst o xs) = okOL xs := by
  show ((!o || isLs .lst) && okOL xs) = _
  simp [isLs]
@[simp] theorem noL_a {x : At} : noL (.a x) = true := rfl
@[simp] theorem noL_tup {o : Bool} {xs : List D} : noL (.n .tup o xs) = noLL xs := by
  show (isTI .tup && noLL xs) = _
  simp [isTI]
@[simp] theorem noL_ins {C : Str} {fs : List Str} {o : Bool} {xs : List D} : noL (.n (.ins C fs) o xs) = noLL xs := by
  show (isTI (.ins C fs) && noLL xs) = _
  simp [isTI]
@[simp] theorem noLL_nil : noLL [] = true := rfl
@[simp] theorem noLL_cons {x : D} {xs : List D} : noLL (x :: xs) = (noL x && noLL xs) := rfl
@[simp] theorem w_Mv : WO E P (dMv i ρ) = SO (ρ[i]?) (fun o => SO o fun d => P d (ρ.set i none)) := by
  unfold dMv
  split
  · rename_i d h; rw [h]; rfl
  · rename_i h
    cases e : ρ[i]? with
    | none => rfl
    | some o =>
      cases o with
      | none => rfl
      | some d => exact absurd e (h d)
@[simp] theorem w_Pop0 : WO E P (dPop0 i ρ) = SO (ρ[i]?) (fun o => SO o fun x => asL x fun xs => SO (xs[xs.length - 1]?) fun d => P d (ρ.set i (some (.lst true (xs.eraseIdx (xs.length - 1)))))) := by
  unfold dPop0
  split
  · rename_i xs h
    rw [h]
    dsimp only [so_some, asL_lst]
    cases xs[xs.length - 1]? <;> rfl
  · rename_i h
    cases e : ρ[i]? with
    | none => rfl
    | some o =>
      cases o with
      | none => rfl
      | some d =>
        dsimp only [so_some]
        rw [asL_cases fun xs z => h xs (by rw [e, z])]
        rfl
def asDct (d : D) (P : List Key → Bool → List D → Prop) : Prop := match d with
  | .n (.dct ks) o xs => P ks o xs
  | _ => False
@[simp] theorem asDct_dct {ks : List Key} {o : Bool} {xs : List D} {P : List Key → Bool → List D → Prop} : asDct (.n (.dct ks) o xs) P = P ks o xs := rfl
theorem asDct_cases {d : D} {P : List Key → Bool → List D → Prop} (h : ∀ ks o xs, d ≠ .n (.dct ks) o xs) : asDct d P = False := by
  cases d with
  | a x => rfl
  | n k o xs =>
    cases k with
    | dct ks => exact absurd rfl (h ks o xs)
    | _ => rfl
def asKey (d : D) (P : Key → Prop) : Prop := match d with
  | .a x => SO (keyOf x) P
  | _ => False
@[simp] theorem asKey_int {j : Int} {P : Key → Prop} : asKey (.a (.int j)) P = P (.inl j) := rfl
@[simp] theorem asKey_str {s : Str} {P : Key → Prop} : asKey (.a (.str s)) P = P (.inr s) := rfl
@[simp] theorem w_DGet : WO E P (dDGet i fb ρ) = SO (ρ[i]?) (fun o => SO o fun x => asDct x fun _ _ _ => WO E (fun d ρ1 => asKey d fun k => SO (ρ1[i]?) fun o => SO o fun y => asDct y fun ks _ xs => SO (dctAt ks xs k) fun d => isF d = true ∧ P d ρ1) (fb ρ)) := by
  unfold dDGet
  split
  · rename_i k0 o0 xs0 h
    rw [h]
    dsimp only [so_some, asDct_dct]
    cases fb ρ with
    | st => rfl
    | ex e ρ1 => rfl
    | ok d ρ1 =>
      cases d with
      | n _ _ _ => rfl
      | a x =>
        dsimp only [wo_ok, asKey]
        cases keyOf x with
        | none => rfl
        | some k =>
          dsimp only [so_some]
          split
          · rename_i ks o1 xs hx
            rw [hx]
            dsimp only [so_some, asDct_dct]
            cases dctAt ks xs k with
            | none => rfl
            | some d =>
              dsimp only [so_some]
              split
              · rename_i hf; simp [hf]
              · rename_i hf; simp [hf, WO]
          · rename_i hx
            cases e : ρ1[i]? with
            | none => rfl
            | some o =>
              cases o with
              | none => rfl
              | some y =>
                dsimp only [so_some]
                rw [asDct_cases fun ks o xs z => hx ks o xs (by rw [e, z])]
                rfl
  · rename_i h
    cases e : ρ[i]? with
    | none => rfl
    | some o =>
      cases o with
      | none => rfl
      | some y =>
        dsimp only [so_some]
        rw [asDct_cases fun ks o xs z => h ks o xs (by rw [e, z])]
        rfl
@[simp] theorem w_DIn {neg : Bool} : WO E P (dDIn neg i fb ρ) = WO E (fun d ρ1 => asKey d fun k => SO (ρ1[i]?) fun o => SO o fun y => asDct y fun ks _ xs => ks.length = xs.length ∧ P (.a (.bl (if neg then !hasK k ks else hasK k ks))) ρ1) (fb ρ) := by
  unfold dDIn
  cases fb ρ with
  | st => rfl
  | ex e ρ1 => rfl
  | ok d ρ1 =>
    cases d with
    | n _ _ _ => rfl
    | a x =>
      dsimp only [wo_ok, asKey]
      cases keyOf x with
      | none => rfl
      | some k =>
        dsimp only [so_some]
        split
        · rename_i ks o1 xs hx
          rw [hx]
          dsimp only [so_some, asDct_dct]
          split
          · rename_i hf; simp [hf]
          · rename_i hf; simp [hf, WO]
        · rename_i hx
          cases e : ρ1[i]? with
          | none => rfl
          | some o =>
            cases o with
            | none => rfl
            | some y =>
              dsimp only [so_some]
              rw [asDct_cases fun ks o xs z => hx ks o xs (by rw [e, z])]
              rfl
@[simp] theorem w_DGet2 : WO E P (dDGet2 i fb fc ρ) = SO (ρ[i]?) (fun o => SO o fun x => asDct x fun _ _ _ => WO E (fun d ρ1 => (∃ x, d = .a x) ∧ WO E (fun c ρ2 => asKey d fun k => SO (ρ2[i]?) fun o => SO o fun y => asDct y fun ks _ xs => isF c = true ∧ (match dctAt ks xs k with | some d => isF d = true ∧ P d ρ2 | none => P c ρ2)) (fc ρ1)) (fb ρ)) := by
  unfold dDGet2
  split
  · rename_i k0 o0 xs0 h
    rw [h]
    dsimp only [so_some, asDct_dct]
    cases fb ρ with
    | st => rfl
    | ex e ρ1 => rfl
    | ok d ρ1 =>
      cases d with
      | n _ _ _ => simp [WO]
      | a x =>
        simp only [wo_ok, D.a.injEq, exists_eq', true_and]
        cases fc ρ1 with
        | st => rfl
        | ex e ρ2 => rfl
        | ok c ρ2 =>
          dsimp only [wo_ok, asKey]
          cases keyOf x with
          | none => rfl
          | some k =>
            dsimp only [so_some]
            split
            · rename_i ks o1 xs hx
              rw [hx]
              dsimp only [so_some, asDct_dct]
              cases dctAt ks xs k with
              | none =>
                dsimp only
                split
                · rename_i hf; simp [hf]
                · rename_i hf; simp [hf, WO]
              | some d =>
                dsimp only
                split
                · rename_i hf; simp [hf.1, hf.2]
                · rename_i hf
                  simp only [WO]
                  symm
                  rw [eq_iff_iff, iff_false]
                  exact fun q => hf ⟨q.2.1, q.1⟩
            · rename_i hx
              cases e : ρ2[i]? with
              | none => rfl
              | some o =>
                cases o with
                | none => rfl
                | some y =>
                  dsimp only [so_some]
                  rw [asDct_cases fun ks o xs z => hx ks o xs (by rw [e, z])]
                  rfl
  · rename_i h
    cases e : ρ[i]? with
    | none => rfl
    | some o =>
      cases o with
      | none => rfl
      | some y =>
        dsimp only [so_some]
        rw [asDct_cases fun ks o xs z => h ks o xs (by rw [e, z])]
        rfl
@[simp] theorem p_DPut {d : D} : WP Q (stDPut i fb d ρ) = SO (ρ[i]?) (fun o => SO o fun x => asDct x fun _ o0 _ => o0 = true ∧ WO Q.ex (fun k ρ2 => asKey k fun k => SO (ρ2[i]?) fun o => SO o fun y => asDct y fun ks o xs => o = true ∧ (((isF d = true ∧ isFL xs = true) ∧ xs.length < cap) ∧ Q.nx (ρ2.set i (some (.n (.dct (putKs ks k)) true (putXs ks xs k d)))))) (fb ρ)) := by
  unfold stDPut
  split
  · rename_i k0 xs0 h
    rw [h]
    simp only [so_some, asDct_dct, true_and]
    cases fb ρ with
    | st => rfl
    | ex e ρ1 => rfl
    | ok dk ρ1 =>
      cases dk with
      | n _ _ _ => rfl
      | a x =>
        dsimp only [wo_ok, asKey]
        cases keyOf x with
        | none => rfl
        | some k =>
          dsimp only [so_some]
          split
          · rename_i ks xs hx
            rw [hx]
            simp only [so_some, asDct_dct, true_and]
            split
            · rename_i hf; simp [hf]
            · rename_i hf
              simp only [WP]
              symm
              rw [eq_iff_iff, iff_false]
              exact fun q => hf q.1
          · rename_i hx
            cases e : ρ1[i]? with
            | none => rfl
            | some o =>
              cases o with
              | none => rfl
              | some y =>
                dsimp only [so_some]
                by_cases hy : ∃ ks xs, y = .n (.dct ks) true xs
                · obtain ⟨ks, xs, rfl⟩ := hy
                  exact absurd e (hx ks xs)
                · cases y with
                  | a x => rfl
                  | n kk oo xs =>
                    cases kk with
                    | dct ks =>
                      cases oo with
                      | true => exact absurd ⟨ks, xs, rfl⟩ hy
                      | false => simp [WP]
                    | _ => rfl
  · rename_i h
    cases e : ρ[i]? with
    | none => rfl
    | some o =>
      cases o with
      | none => rfl
      | some y =>
        dsimp only [so_some]
        cases y with
        | a x => rfl
        | n kk oo xs =>
          cases kk with
          | dct ks =>
            cases oo with
            | true => exact absurd e (h ks xs)
            | false => simp [WP]
          | _ => rfl
@[simp] theorem o_lenD {ks : List Key} {o : Bool} {xs : List D} {P : D → Prop} : SO (gLenD (.n (.dct ks) o xs)) P = P (.a (.int xs.length)) := rfl
@[simp] theorem w_Disp1 : WO E P (dDisp1 fb fc ρ) = WO E (fun d ρ1 => (∃ x, d = .a x) ∧ WO E (fun c ρ2 => asKey d fun k => isF c = true ∧ P (.n (.dct [k]) true [c]) ρ2) (fc ρ1)) (fb ρ) := by
  unfold dDisp1
  cases fb ρ with
  | st => rfl
  | ex e ρ1 => rfl
  | ok d ρ1 =>
    cases d with
    | n _ _ _ => simp [WO]
    | a x =>
      simp only [wo_ok, D.a.injEq, exists_eq', true_and]
      cases fc ρ1 with
      | st => rfl
      | ex e ρ2 => rfl
      | ok c ρ2 =>
        dsimp only [wo_ok, asKey]
        cases keyOf x with
        | none => rfl
        | some k =>
          dsimp only [so_some]
          split
          · rename_i hf; simp [hf]
          · rename_i hf; simp [hf, WO]
@[simp] theorem p_FzB {f : DL.Env → Fl} {d : D} (h : ρ[i]? = some (some d)) : WP Q (dFzB i f ρ) = WP Q (f (ρ.set i (some (frz d)))) := by
  unfold dFzB
  rw [h]
end
@[simp] theorem w_DGetE {E : Exn → DL.Env → Prop} {P : D → DL.Env → Prop} {fa fb : DL.Env → Out D} {ρ : DL.Env} : WO E P (dDGetE fa fb ρ) = WO E (fun d1 ρ1 => asDct d1 fun ks _ xs => WO E (fun d ρ2 => asKey d fun k => SO (dctAt ks xs k) fun d => isF d = true ∧ P d ρ2) (fb ρ1)) (fa ρ) := by
  unfold dDGetE
  cases fa ρ with
  | st => rfl
  | ex e ρ1 => rfl
  | ok d1 ρ1 =>
    cases d1 with
    | a x => rfl
    | n kk o xs =>
      cases kk <;> first
        | rfl
        | (dsimp only [wo_ok, asDct]
           cases fb ρ1 with
           | st => rfl
           | ex e ρ2 => rfl
           | ok d ρ2 =>
             cases d with
             | n _ _ _ => rfl
             | a x =>
               dsimp only [wo_ok, asKey]
               cases keyOf x with
               | none => rfl
               | some k =>
                 dsimp only [so_some]
                 cases dctAt _ xs k with
                 | none => rfl
                 | some d =>
                   dsimp only [so_some]
                   split
                   · rename_i h; simp [h]
                   · rename_i h; simp [h]; exact fun h => h)
@[simp] theorem o_trng {i : Int} {P : D → Prop} : SO (gTRng (.a (.int i))) P = ((-4611686018427387904 ≤ i ∧ i ≤ 16777216) ∧ P (.tup (intL 0 i.toNat))) := by
  unfold gTRng
  by_cases h : -4611686018427387904 ≤ i ∧ i ≤ 16777216 <;> simp [h]
@[simp] theorem o_divm {i j : Int} {P : D → Prop} : SO (gDivm (.a (.int i)) (.a (.int j))) P = ((0 < j ∧ j < 1073741824) ∧ P (.tup [.int (i / j), .int (i % j)])) := by
  unfold gDivm
  by_cases h : 0 < j ∧ j < 1073741824 <;> simp [h]
end DL
namespace DC
open PySem L2 DL
def B_has : DL.Env → Fl :=
  (dBind (dOp2 gEq (dOp2 gAnd (dOp2 gShr (dVar 0) (dVar 1)) (dC (.int 1))) (dC (.int 1))) fun d ρ => .rt d ρ)
def F_has : List D → FR := fnD 2 none B_has
def B_u_closed : DL.Env → Fl :=
  (dSeq (dBind (dOp2 gMul (dLst (dACons (dC (.int 0)) dANil)) (dVar 0)) (stSet 2))
  (dSeq (dFor (dIter (dVar 1)) (tgT [3, 4]) (dBind (dOp2 gOrB (dIxV 2 (dVar 3)) (dOp2 gShl (dC (.int 1)) (dVar 4))) (stSub 2 (dVar 3))))
  (dSeq (dFrz 2 (dFor (dRng1 (dVar 0)) (tg1 4) (dFor (dRng1 (dVar 0)) (tg1 3) (dIf (dB (dCall 2 F_has (dACons (dIxV 2 (dVar 3)) (dACons (dVar 4) dANil)))) (dBind (dOp2 gOrB (dIxV 2 (dVar 3)) (dIxV 2 (dVar 4))) (stSub 2 (dVar 3))) dNext))))
  (dSeq (dFor (dRng1 (dVar 0)) (tg1 3) (dIf (dB (dCall 2 F_has (dACons (dOp2 gIx (dVar 2) (dVar 3)) (dACons (dVar 3) dANil)))) (dBind (dC (.str "cycle")) (stRaise "Refused" "reason" DL.okStr)) dNext))
  (dBind (dU gTuple (dVar 2)) fun d ρ => .rt d ρ)))))
def F_u_closed : List D → FR := fnD 5 none B_u_closed
def B_is_integer : DL.Env → Fl :=
  (dBind (dAndV (dU (gIsi "int") (dVar 0)) (dNotV (dU (gIsi "bool") (dVar 0)))) fun d ρ => .rt d ρ)
def F_is_integer : List D → FR := fnD 1 none B_is_integer
def B_u_checked_pairs : DL.Env → Fl :=
  (dSeq (dIf (dNotT (dB (dU (gIsi2 "list" "tuple") (dVar 1)))) (dRaise "Malformed") dNext)
  (dSeq (dBind (dLst dANil) (stSet 2))
  (dSeq (dFrz 2 (dFor (dIter (dVar 1)) (tg1 3) (dSeq (dIf (dOrT (dNotT (dB (dU (gIsi "tuple") (dVar 3)))) (dB (dOp2 gNe (dU gLen (dVar 3)) (dC (.int 2))))) (dRaise "Malformed") dNext)
  (dSeq (dFor (dIter (dVar 3)) (tg1 4) (dIf (dOrT (dNotT (dB (dCall 1 F_is_integer (dACons (dVar 4) dANil)))) (dOrT (dB (dOp2 gLt (dVar 4) (dC (.int 0)))) (dB (dOp2 gGe (dVar 4) (dVar 0))))) (dRaise "Malformed") dNext))
  (dHas 2 (dBind (dVar 3) (stApp 2)))))))
  (dBind (dVar 2) fun d ρ => .rt d ρ))))
def F_u_checked_pairs : List D → FR := fnD 5 none B_u_checked_pairs
def B_OrderU_initU : DL.Env → Fl :=
  (dSeq (dIf (dOrT (dNotT (dB (dCall 1 F_is_integer (dACons (dVar 1) dANil)))) (dB (dOp2 gLt (dVar 1) (dC (.int 0))))) (dRaise "Malformed") dNext)
  (dSeq (dIf (dB (dOp2 gGt (dVar 1) (dC (.int 10)))) (dBind (dC (.str "large")) (stRaise "Refused" "reason" DL.okStr)) dNext)
  (dSeq (dBind (dVar 1) (stFld "Order" "n" 0))
  (dBind (dCall 2 F_u_closed (dACons (dVar 1) (dACons (dCall 2 F_u_checked_pairs (dACons (dVar 1) (dACons (dVar 2) dANil))) dANil))) (stFld "Order" "above" 0)))))
def F_OrderU_initU : List D → FR := fnD 3 (some 0) B_OrderU_initU
def B_law_place : DL.Env → Fl :=
  (dSeq (dBind (dC (.int 1)) (stSet 1))
  (dSeq (dFor (dRng1 (dVar 0)) (tg1 2) (dBind (dOp2 gMul (dVar 1) (dC (.int 2))) (stSet 1)))
  (dBind (dVar 1) fun d ρ => .rt d ρ)))
def F_law_place : List D → FR := fnD 3 none B_law_place
def B_members : DL.Env → Fl :=
  (dBind (dU gTuple (dLc [1] (dRng1 (dU gBits (dVar 0))) (tg1 1) (dB (dOp2 gEq (dOp2 gAnd (dOp2 gShr (dVar 0) (dVar 1)) (dC (.int 1))) (dC (.int 1)))) (dVar 1))) fun d ρ => .rt d ρ)
def F_members : List D → FR := fnD 2 none B_members
def B_Order_less : DL.Env → Fl :=
  (dBind (dCall 2 F_has (dACons (dOp2 gIx (dU (gFld "above") (dVar 0)) (dVar 1)) (dACons (dVar 2) dANil))) fun d ρ => .rt d ρ)
def F_Order_less : List D → FR := fnD 3 none B_Order_less
def B_Order_is_antichain : DL.Env → Fl :=
  (dBind (dOp2 gEq (dU gLen (dLc [2] (dIter (dCall 1 F_members (dACons (dVar 1) dANil))) (tg1 2) (dB (dOp2 gNe (dOp2 gAnd (dOp2 gIx (dU (gFld "above") (dVar 0)) (dVar 2)) (dVar 1)) (dC (.int 0)))) (dVar 2))) (dC (.int 0))) fun d ρ => .rt d ρ)
def F_Order_is_antichain : List D → FR := fnD 3 none B_Order_is_antichain
def B_Order_pairs : DL.Env → Fl :=
  (dSeq (dBind (dLst dANil) (stSet 1))
  (dSeq (dFrz 1 (dFor (dRng1 (dU (gFld "n") (dVar 0))) (tg1 2) (dFor (dIter (dCall 1 F_members (dACons (dOp2 gIx (dU (gFld "above") (dVar 0)) (dVar 2)) dANil))) (tg1 3) (dHas 1 (dBind (dTup (dACons (dVar 2) (dACons (dVar 3) dANil))) (stApp 1))))))
  (dBind (dU gTuple (dVar 1)) fun d ρ => .rt d ρ)))
def F_Order_pairs : List D → FR := fnD 4 none B_Order_pairs
def B_set_of : DL.Env → Fl :=
  (dSeq (dBind (dC (.int 0)) (stSet 1))
  (dSeq (dFor (dIter (dVar 0)) (tg1 2) (dBind (dOp2 gOrB (dVar 1) (dOp2 gShl (dC (.int 1)) (dVar 2))) (stSet 1)))
  (dBind (dVar 1) fun d ρ => .rt d ρ)))
def F_set_of : List D → FR := fnD 3 none B_set_of
def B_Order_below : DL.Env → Fl :=
  (dBind (dU gTuple (dLc [1] (dRng1 (dU (gFld "n") (dVar 0))) (tg1 1) dYes (dCall 1 F_set_of (dACons (dLc [2] (dRng1 (dU (gFld "n") (dVar 0))) (tg1 2) (dB (dCall 2 F_has (dACons (dOp2 gIx (dU (gFld "above") (dVar 0)) (dVar 2)) (dACons (dVar 1) dANil)))) (dVar 2)) dANil)))) fun d ρ => .rt d ρ)
def F_Order_below : List D → FR := fnD 3 none B_Order_below
def B_law_numbers : DL.Env → Fl :=
  (dSeq (dBind (dLst dANil) (stSet 1))
  (dSeq (dFor (dRng1 (dOp2 gMin2 (dU gLen (dVar 0)) (dC (.int 63)))) (tg1 2) (dSeq (dBind (dU gAbs (dOp2 gIx (dVar 0) (dVar 2))) (stSet 3))
  (dIf (dB (dOp2 gGe (dVar 3) (dOp2 gPow (dC (.int 10)) (dC (.int 18))))) (dFor (dRng1 (dC (.int 60))) (tg1 4) (dIf (dB (dOp2 gGt (dVar 3) (dC (.int 0)))) (dSeq (dHas 1 (dBind (dOp2 gMod (dVar 3) (dC (.int 1009))) (stApp 1)))
  (dBind (dOp2 gFdiv (dVar 3) (dC (.int 1009))) (stSet 3))) dNext)) (dFor (dRng1 (dC (.int 5))) (tg1 5) (dSeq (dBind (dOp2 gMod (dOp2 gAdd (dOp2 gAdd (dOp2 gMul (dVar 3) (dC (.int 48271))) (dOp2 gMul (dC (.int 69621)) (dOp2 gAdd (dVar 5) (dVar 2)))) (dC (.int 11))) (dC (.int 2147483647))) (stSet 3))
  (dSeq (dBind (dOp2 gMod (dOp2 gAdd (dOp2 gMul (dVar 3) (dC (.int 16807))) (dOp2 gFdiv (dVar 3) (dC (.int 65536)))) (dC (.int 2147483629))) (stSet 6))
  (dHas 1 (dBind (dOp2 gMod (dVar 6) (dC (.int 1009))) (stApp 1)))))))))
  (dRetMv 1)))
def F_law_numbers : List D → FR := fnD 7 none B_law_numbers
def B_law_next : DL.Env → Fl :=
  (dSeq (dIf (dB (dOp2 gEq (dU gLen (dPeek 0)) (dC (.int 0)))) (dBind (dC (.int 0)) fun d ρ => .rt d ρ) dNext)
  (dBind (dOp2 gMod (dPopAt 0 (dC (.int 0))) (dVar 1)) fun d ρ => .rt d ρ))
def F_law_next : List D → FR := fnD 2 (some 0) B_law_next
def B_law_order : DL.Env → Fl :=
  (dSeq (dBind (dCallL 2 (some 0) F_law_next (dALent 0 (dACons (dOp2 gAdd (dVar 1) (dC (.int 1))) dANil))) (stSet 2))
  (dSeq (dBind (dLst dANil) (stSet 3))
  (dSeq (dBind (dLc [10] (dRng1 (dVar 2)) (tg1 10) dYes (dVar 10)) (stSet 4))
  (dSeq (dFrz 4 (dFrz 3 (dFor (dRng1 (dVar 2)) (tg1 5) (dHas 3 (dBind (dPopAt 4 (dCallL 2 (some 0) F_law_next (dALent 0 (dACons (dU gLen (dPeek 4)) dANil)))) (stApp 3))))))
  (dSeq (dBind (dOp2 gAdd (dC (.int 2)) (dCallL 2 (some 0) F_law_next (dALent 0 (dACons (dC (.int 3)) dANil)))) (stSet 6))
  (dSeq (dBind (dLst dANil) (stSet 7))
  (dSeq (dFrz 7 (dFor (dRng1 (dVar 2)) (tg1 8) (dFor (dRng1 (dVar 8)) (tg1 9) (dIf (dB (dOp2 gEq (dCallL 2 (some 0) F_law_next (dALent 0 (dACons (dVar 6) dANil))) (dC (.int 0)))) (dHas 7 (dBind (dTup (dACons (dOp2 gIx (dVar 3) (dVar 9)) (dACons (dOp2 gIx (dVar 3) (dVar 8)) dANil))) (stApp 7))) dNext))))
  (dBind (dMake "Order" 2 F_OrderU_initU (dACons (dVar 2) (dACons (dVar 7) dANil))) fun d ρ => .rt d ρ))))))))
def F_law_order : List D → FR := fnD 11 (some 0) B_law_order
def B_Order_size : DL.Env → Fl :=
  (dBind (dU (gFld "n") (dVar 0)) fun d ρ => .rt d ρ)
def F_Order_size : List D → FR := fnD 1 none B_Order_size
def B_binomial : DL.Env → Fl :=
  (dSeq (dBind (dC (.int 1)) (stSet 2))
  (dSeq (dFor (dRng1 (dVar 1)) (tg1 3) (dBind (dOp2 gFdiv (dOp2 gMul (dVar 2) (dOp2 gSub (dVar 0) (dVar 3))) (dOp2 gAdd (dVar 3) (dC (.int 1)))) (stSet 2)))
  (dBind (dVar 2) fun d ρ => .rt d ρ)))
def F_binomial : List D → FR := fnD 4 none B_binomial
def B_value_at : DL.Env → Fl :=
  (dBind (dU gSum (dLc [2] (dRng1 (dU gLen (dVar 0))) (tg1 2) dYes (dOp2 gMul (dOp2 gIx (dVar 0) (dVar 2)) (dCall 2 F_binomial (dACons (dVar 1) (dACons (dVar 2) dANil)))))) fun d ρ => .rt d ρ)
def F_value_at : List D → FR := fnD 3 none B_value_at
def B_trimmed : DL.Env → Fl :=
  (dSeq (dBind (dU gLen (dVar 0)) (stSet 1))
  (dSeq (whL (dAndT (dB (dOp2 gGt (dVar 1) (dC (.int 0)))) (dB (dOp2 gEq (dOp2 gIx (dVar 0) (dOp2 gSub (dVar 1) (dC (.int 1)))) (dC (.int 0))))) (dBind (dOp2 gSub (dVar 1) (dC (.int 1))) (stSet 1)) 100000)
  (dBind (dU gTuple (dSl (dVar 0) none (some (dVar 1)))) fun d ρ => .rt d ρ)))
def F_trimmed : List D → FR := fnD 2 none B_trimmed
def B_ranks : DL.Env → Fl :=
  (dSeq (dBind (dMeth "Order" "below" 0 F_Order_below (dVar 0) dANil) (stSet 1))
  (dSeq (dBind (fun ρ => .ok (.n (.dct []) true []) ρ) (stSet 2))
  (dSeq (dFrz 2 (whL (dB (dOp2 gLt (dU gLenD (dPeek 2)) (dMeth "Order" "size" 0 F_Order_size (dVar 0) dANil))) (dFor (dRng1 (dMeth "Order" "size" 0 F_Order_size (dVar 0) dANil)) (tg1 3) (dSeq (dBind (dCall 1 F_members (dACons (dOp2 gIx (dVar 1) (dVar 3)) dANil)) (stSet 4))
  (dIf (dAndT (dB (dDIn true 2 (dVar 3))) (dB (dU gAll (dLc [5] (dIter (dVar 4)) (tg1 5) dYes (dDIn false 2 (dVar 5)))))) (dBind (dOp2 gAdd (dU gMax1 (dOp2 gAdd (dLst (dACons (dU gNeg (dC (.int 1))) dANil)) (dLc [5] (dIter (dVar 4)) (tg1 5) dYes (dDGet 2 (dVar 5))))) (dC (.int 1))) (stDPut 2 (dVar 3))) dNext))) 100000))
  (dBind (dU gTuple (dLc [3] (dRng1 (dMeth "Order" "size" 0 F_Order_size (dVar 0) dANil)) (tg1 3) dYes (dDGet 2 (dVar 3)))) fun d ρ => .rt d ρ))))
def F_ranks : List D → FR := fnD 6 none B_ranks
def B_length : DL.Env → Fl :=
  (dBind (dOp2 gAdd (dU gMax1 (dOp2 gAdd (dLst (dACons (dU gNeg (dC (.int 1))) dANil)) (dU gList (dCall 1 F_ranks (dACons (dVar 0) dANil))))) (dC (.int 1))) fun d ρ => .rt d ρ)
def F_length : List D → FR := fnD 1 none B_length
def B_law_points : DL.Env → Fl :=
  (dSeq (dBind (dLst dANil) (stSet 1))
  (dSeq (dBind (dC (.int 0)) (stSet 2))
  (dSeq (dFrz 1 (whL (dB (dOp2 gGt (dVar 0) (dC (.int 0)))) (dSeq (dIf (dB (dOp2 gEq (dOp2 gMod (dVar 0) (dC (.int 2))) (dC (.int 1)))) (dHas 1 (dBind (dVar 2) (stApp 1))) dNext)
  (dSeq (dBind (dOp2 gFdiv (dVar 0) (dC (.int 2))) (stSet 0))
  (dBind (dOp2 gAdd (dVar 2) (dC (.int 1))) (stSet 2)))) 100000))
  (dBind (dVar 1) fun d ρ => .rt d ρ))))
def F_law_points : List D → FR := fnD 3 none B_law_points
def B_law_is_lower : DL.Env → Fl :=
  (dSeq (dFor (dIter (dVar 1)) (tg1 2) (dFor (dRng1 (dU gLen (dVar 0))) (tg1 3) (dIf (dAndT (dB (dOp2 gIx (dOp2 gIx (dVar 0) (dVar 3)) (dVar 2))) (dB (dOp2 gNotIn (dVar 3) (dVar 1)))) (dBind (dC (.bl false)) fun d ρ => .rt d ρ) dNext)))
  (dBind (dC (.bl true)) fun d ρ => .rt d ρ))
def F_law_is_lower : List D → FR := fnD 4 none B_law_is_lower
def B_LatticeU_lenU : DL.Env → Fl :=
  (dBind (dU gLen (dU (gFld "above") (dVar 0))) fun d ρ => .rt d ρ)
def F_LatticeU_lenU : List D → FR := fnD 1 none B_LatticeU_lenU
def B_Lattice_joined : DL.Env → Fl :=
  (dBind (dOp2 gIx (dOp2 gIx (dU (gFld "joins") (dVar 0)) (dVar 1)) (dVar 2)) fun d ρ => .rt d ρ)
def F_Lattice_joined : List D → FR := fnD 3 none B_Lattice_joined
def B_Lattice_met : DL.Env → Fl :=
  (dBind (dOp2 gIx (dOp2 gIx (dU (gFld "meets") (dVar 0)) (dVar 1)) (dVar 2)) fun d ρ => .rt d ρ)
def F_Lattice_met : List D → FR := fnD 3 none B_Lattice_met
end DC
namespace DC
open PySem L2 DL
def B_law_lower_sets_v2 : DL.Env → Fl :=
  (dSeq (dBind (dLst dANil) (stSet 1))
  (dSeq (dFrz 1 (dFor (dRng1 (dCall 1 F_law_place (dACons (dU gLen (dVar 0)) dANil))) (tg1 2) (dSeq (dBind (dFz (dCall 1 F_law_points (dACons (dVar 2) dANil))) (stSet 3))
  (dIf (dB (dCall 2 F_law_is_lower (dACons (dVar 0) (dACons (dVar 3) dANil)))) (dHas 1 (dBind (dTup (dACons (dU gLen (dVar 3)) (dACons (dVar 2) dANil))) (stApp 1))) dNext))))
  (dBind (dLc [4, 2] (dIter (dFz (dU gSortU (dVar 1)))) (tgT [4, 2]) dYes (dVar 2)) fun d ρ => .rt d ρ)))
def F_law_lower_sets_v2 : List D → FR := fnD 5 none B_law_lower_sets_v2
end DC
namespace DC
open PySem L2 DL
end DC
namespace DC
open PySem L2 DL
end DC
namespace DC
open PySem L2 DL
end DC
namespace DC
open PySem L2 DL
end DC
namespace DC
open PySem L2 DL
def B_is_failure : DL.Env → Fl :=
  (dSeq (dIf (dOrT (dNotT (dB (dU (gIsi "tuple") (dVar 2)))) (dB (dOp2 gNe (dU gLen (dVar 2)) (dC (.int 3))))) (dBind (dC (.bl false)) fun d ρ => .rt d ρ) dNext)
  (dSeq (dFor (dIter (dVar 2)) (tg1 3) (dIf (dOrT (dNotT (dB (dCall 1 F_is_integer (dACons (dVar 3) dANil)))) (dOrT (dB (dOp2 gLt (dVar 3) (dC (.int 0)))) (dB (dOp2 gGe (dVar 3) (dVar 1))))) (dBind (dC (.bl false)) fun d ρ => .rt d ρ) dNext))
  (dSeq (dBind (dFz (dVar 2)) (stTg (tgT [3, 4, 5])))
  (dSeq (dBind (dMeth "Lattice" "met" 2 F_Lattice_met (dVar 0) (dACons (dVar 3) (dACons (dMeth "Lattice" "joined" 2 F_Lattice_joined (dVar 0) (dACons (dVar 4) (dACons (dVar 5) dANil))) dANil))) (stSet 6))
  (dBind (dOp2 gNe (dVar 6) (dMeth "Lattice" "joined" 2 F_Lattice_joined (dVar 0) (dACons (dMeth "Lattice" "met" 2 F_Lattice_met (dVar 0) (dACons (dVar 3) (dACons (dVar 4) dANil))) (dACons (dMeth "Lattice" "met" 2 F_Lattice_met (dVar 0) (dACons (dVar 3) (dACons (dVar 5) dANil))) dANil)))) fun d ρ => .rt d ρ)))))
def F_is_failure : List D → FR := fnD 7 none B_is_failure
def B_takes_lattice : DL.Env → Fl :=
  (dSeq (dIf (dOrT (dNotT (dB (dU (gIsi "tuple") (dVar 1)))) (dB (dOp2 gLt (dU gLen (dVar 1)) (dC (.int 2))))) (dBind (dC (.bl false)) fun d ρ => .rt d ρ) dNext)
  (dSeq (dBind (dU (gLenO "Lattice" F_LatticeU_lenU) (dVar 0)) (stSet 2))
  (dSeq (dIf (dB (dOp2 gEq (dOp2 gIx (dVar 1) (dC (.int 0))) (dC (.str "failure")))) (dBind (dAndV (dOp2 gEq (dU gLen (dVar 1)) (dC (.int 2))) (dCall 3 F_is_failure (dACons (dVar 0) (dACons (dVar 2) (dACons (dOp2 gIx (dVar 1) (dC (.int 1))) dANil))))) fun d ρ => .rt d ρ) dNext)
  (dSeq (dIf (dOrT (dB (dOp2 gNe (dOp2 gIx (dVar 1) (dC (.int 0))) (dC (.str "lower")))) (dOrT (dB (dOp2 gNe (dU gLen (dVar 1)) (dC (.int 3)))) (dOrT (dNotT (dB (dCall 1 F_is_integer (dACons (dOp2 gIx (dVar 1) (dC (.int 1))) dANil)))) (dB (dOp2 gLt (dOp2 gIx (dVar 1) (dC (.int 1))) (dC (.int 0))))))) (dBind (dC (.bl false)) fun d ρ => .rt d ρ) dNext)
  (dSeq (dBind (dOp2 gIx (dVar 1) (dC (.int 2))) (stSet 3))
  (dSeq (dIf (dOrT (dNotT (dB (dU (gIsi "tuple") (dVar 3)))) (dB (dOp2 gNe (dU gLen (dVar 3)) (dVar 2)))) (dBind (dC (.bl false)) fun d ρ => .rt d ρ) dNext)
  (dSeq (dFor (dRng1 (dVar 2)) (tg1 4) (dIf (dOrT (dNotT (dB (dCall 1 F_is_integer (dACons (dOp2 gIx (dVar 3) (dVar 4)) dANil)))) (dOrT (dB (dOp2 gLt (dOp2 gIx (dVar 3) (dVar 4)) (dC (.int 0)))) (dOrT (dB (dOp2 gGt (dU gBits (dOp2 gIx (dVar 3) (dVar 4))) (dOp2 gIx (dVar 1) (dC (.int 1))))) (dB (dOp2 gIn (dOp2 gIx (dVar 3) (dVar 4)) (dSl (dVar 3) none (some (dVar 4)))))))) (dBind (dC (.bl false)) fun d ρ => .rt d ρ) dNext))
  (dSeq (dFor (dRng1 (dVar 2)) (tg1 5) (dFor (dRng1 (dVar 2)) (tg1 6) (dSeq (dIf (dB (dOp2 gNe (dOp2 gIx (dVar 3) (dMeth "Lattice" "joined" 2 F_Lattice_joined (dVar 0) (dACons (dVar 5) (dACons (dVar 6) dANil)))) (dOp2 gOrB (dOp2 gIx (dVar 3) (dVar 5)) (dOp2 gIx (dVar 3) (dVar 6))))) (dBind (dC (.bl false)) fun d ρ => .rt d ρ) dNext)
  (dIf (dB (dOp2 gNe (dOp2 gIx (dVar 3) (dMeth "Lattice" "met" 2 F_Lattice_met (dVar 0) (dACons (dVar 5) (dACons (dVar 6) dANil)))) (dOp2 gAnd (dOp2 gIx (dVar 3) (dVar 5)) (dOp2 gIx (dVar 3) (dVar 6))))) (dBind (dC (.bl false)) fun d ρ => .rt d ρ) dNext))))
  (dBind (dC (.bl true)) fun d ρ => .rt d ρ)))))))))
def F_takes_lattice : List D → FR := fnD 7 none B_takes_lattice
end DC
namespace DC
open PySem L2 DL
def B_is_free : DL.Env → Fl :=
  (dSeq (dFor (dRng1 (dU (gFld "n") (dVar 0))) (tg1 3) (dIf (dAndT (dB (dMeth "Order" "less" 2 F_Order_less (dVar 0) (dACons (dVar 3) (dACons (dVar 1) dANil)))) (dB (dOp2 gNotIn (dVar 3) (dVar 2)))) (dBind (dC (.bl false)) fun d ρ => .rt d ρ) dNext))
  (dBind (dC (.bl true)) fun d ρ => .rt d ρ))
def F_is_free : List D → FR := fnD 4 none B_is_free
def B_linear_rows : DL.Env → Fl :=
  (dSeq (dBind (dFz (dLst (dACons (dTup dANil) dANil))) (stSet 1))
  (dSeq (dFor (dRng1 (dU (gFld "n") (dVar 0))) (tg1 2) (dSeq (dBind (dLst dANil) (stSet 3))
  (dSeq (dFrz 3 (dFor (dIter (dFz (dU gList (dVar 1)))) (tg1 4) (dFor (dRng1 (dU (gFld "n") (dVar 0))) (tg1 5) (dIf (dAndT (dB (dOp2 gNotIn (dVar 5) (dVar 4))) (dB (dCall 3 F_is_free (dACons (dVar 0) (dACons (dVar 5) (dACons (dVar 4) dANil)))))) (dHas 3 (dBind (dOp2 gAdd (dVar 4) (dTup (dACons (dVar 5) dANil))) (stApp 3))) dNext))))
  (dBind (dVar 3) (stSet 1)))))
  (dBind (dVar 1) fun d ρ => .rt d ρ)))
def F_linear_rows : List D → FR := fnD 6 none B_linear_rows
def B_open_pairs : DL.Env → Fl :=
  (dSeq (dBind (dLst dANil) (stSet 1))
  (dSeq (dFrz 1 (dFor (dRng1 (dU (gFld "n") (dVar 0))) (tg1 2) (dFor (dRng1 (dU (gFld "n") (dVar 0))) (tg1 3) (dIf (dAndT (dB (dOp2 gNe (dVar 2) (dVar 3))) (dAndT (dNotT (dB (dMeth "Order" "less" 2 F_Order_less (dVar 0) (dACons (dVar 2) (dACons (dVar 3) dANil))))) (dNotT (dB (dMeth "Order" "less" 2 F_Order_less (dVar 0) (dACons (dVar 3) (dACons (dVar 2) dANil))))))) (dHas 1 (dBind (dTup (dACons (dVar 2) (dACons (dVar 3) dANil))) (stApp 1))) dNext))))
  (dBind (dVar 1) fun d ρ => .rt d ρ)))
def F_open_pairs : List D → FR := fnD 4 none B_open_pairs
def B_left_open : DL.Env → Fl :=
  (dSeq (dBind (fun ρ => .ok (.n (.dct []) true []) ρ) (stSet 2))
  (dSeq (dFrz 2 (dFor (dRng1 (dU gLen (dVar 1))) (tg1 3) (dBind (dVar 3) (stDPut 2 (dOp2 gIx (dVar 1) (dVar 3))))))
  (dBind (dLc [4] (dIter (dVar 0)) (tg1 4) (dB (dOp2 gGt (dDGet 2 (dOp2 gIx (dVar 4) (dC (.int 0)))) (dDGet 2 (dOp2 gIx (dVar 4) (dC (.int 1)))))) (dVar 4)) fun d ρ => .rt d ρ)))
def F_left_open : List D → FR := fnD 5 none B_left_open
def B_has_before : DL.Env → Fl :=
  (dSeq (dFor (dIter (dVar 2)) (tg1 4) (dIf (dOrT (dB (dMeth "Order" "less" 2 F_Order_less (dVar 0) (dACons (dVar 4) (dACons (dVar 3) dANil)))) (dB (dOp2 gIn (dTup (dACons (dVar 4) (dACons (dVar 3) dANil))) (dVar 1)))) (dBind (dC (.bl true)) fun d ρ => .rt d ρ) dNext))
  (dBind (dC (.bl false)) fun d ρ => .rt d ρ))
def F_has_before : List D → FR := fnD 5 none B_has_before
def B_is_without_circle : DL.Env → Fl :=
  (dSeq (dBind (dFz (dLc [4] (dRng1 (dU (gFld "n") (dVar 0))) (tg1 4) dYes (dVar 4))) (stSet 2))
  (dSeq (whL (dB (dOp2 gGt (dU gLen (dVar 2)) (dC (.int 0)))) (dSeq (dBind (dFz (dLc [4] (dIter (dVar 2)) (tg1 4) (dNotT (dB (dCall 4 F_has_before (dACons (dVar 0) (dACons (dVar 1) (dACons (dVar 2) (dACons (dVar 4) dANil))))))) (dVar 4))) (stSet 3))
  (dSeq (dIf (dB (dOp2 gEq (dU gLen (dVar 3)) (dC (.int 0)))) (dBind (dC (.bl false)) fun d ρ => .rt d ρ) dNext)
  (dBind (dFz (dLc [4] (dIter (dVar 2)) (tg1 4) (dB (dOp2 gNotIn (dVar 4) (dVar 3))) (dVar 4))) (stSet 2)))) 100000)
  (dBind (dC (.bl true)) fun d ρ => .rt d ρ)))
def F_is_without_circle : List D → FR := fnD 5 none B_is_without_circle
def B_can_close (rec : List D → FR) : DL.Env → Fl :=
  (dSeq (dIf (dB (dOp2 gEq (dU gLen (dVar 1)) (dC (.int 0)))) (dBind (dC (.bl true)) fun d ρ => .rt d ρ) dNext)
  (dSeq (dIf (dB (dOp2 gEq (dVar 3) (dC (.int 0)))) (dBind (dC (.bl false)) fun d ρ => .rt d ρ) dNext)
  (dSeq (dIf (dB (dOp2 gEq (dVar 3) (dC (.int 1)))) (dBind (dCall 2 F_is_without_circle (dACons (dVar 0) (dACons (dVar 1) dANil))) fun d ρ => .rt d ρ) dNext)
  (dSeq (dFor (dIter (dVar 2)) (tg1 4) (dIf (dB (dCall 4 rec (dACons (dVar 0) (dACons (dCall 2 F_left_open (dACons (dVar 1) (dACons (dVar 4) dANil))) (dACons (dVar 2) (dACons (dOp2 gSub (dVar 3) (dC (.int 1))) dANil)))))) (dBind (dC (.bl true)) fun d ρ => .rt d ρ) dNext))
  (dBind (dC (.bl false)) fun d ρ => .rt d ρ)))))
def R_can_close : Nat → List D → FR
  | 0 => fun _ => .st
  | m + 1 => fnD 5 none (B_can_close (R_can_close m))
def F_can_close : List D → FR := R_can_close 12
def B_same_rows : DL.Env → Fl :=
  (dSeq (dFor (dIter (dVar 0)) (tg1 2) (dIf (dNotT (dB (dCall 1 F_is_integer (dACons (dVar 2) dANil)))) (dBind (dC (.bl false)) fun d ρ => .rt d ρ) dNext))
  (dBind (dOp2 gIn (dVar 0) (dVar 1)) fun d ρ => .rt d ρ))
def F_same_rows : List D → FR := fnD 3 none B_same_rows
def B_takes_dimension : DL.Env → Fl :=
  (dSeq (dIf (dB (dOp2 gGt (dU (gFld "n") (dVar 0)) (dC (.int 6)))) (dBind (dC (.str "large")) (stRaise "Refused" "reason" DL.okStr)) dNext)
  (dSeq (dIf (dOrT (dNotT (dB (dU (gIsi "tuple") (dVar 1)))) (dOrT (dB (dOp2 gNe (dU gLen (dVar 1)) (dC (.int 2)))) (dOrT (dB (dOp2 gNe (dOp2 gIx (dVar 1) (dC (.int 0))) (dC (.str "dimension")))) (dNotT (dB (dU (gIsi "tuple") (dOp2 gIx (dVar 1) (dC (.int 1))))))))) (dBind (dC (.bl false)) fun d ρ => .rt d ρ) dNext)
  (dSeq (dBind (dCall 1 F_linear_rows (dACons (dVar 0) dANil)) (stSet 2))
  (dSeq (dBind (dFz (dCall 1 F_open_pairs (dACons (dVar 0) dANil))) (stSet 3))
  (dSeq (dFor (dIter (dOp2 gIx (dVar 1) (dC (.int 1)))) (tg1 4) (dSeq (dIf (dOrT (dNotT (dB (dU (gIsi "tuple") (dVar 4)))) (dNotT (dB (dCall 2 F_same_rows (dACons (dVar 4) (dACons (dVar 2) dANil)))))) (dBind (dC (.bl false)) fun d ρ => .rt d ρ) dNext)
  (dBind (dFz (dCall 2 F_left_open (dACons (dVar 3) (dACons (dVar 4) dANil)))) (stSet 3))))
  (dSeq (dIf (dOrT (dB (dOp2 gEq (dU gLen (dOp2 gIx (dVar 1) (dC (.int 1)))) (dC (.int 0)))) (dB (dOp2 gGt (dU gLen (dVar 3)) (dC (.int 0))))) (dBind (dC (.bl false)) fun d ρ => .rt d ρ) dNext)
  (dSeq (dIf (dB (dOp2 gEq (dU gLen (dOp2 gIx (dVar 1) (dC (.int 1)))) (dC (.int 1)))) (dBind (dC (.bl true)) fun d ρ => .rt d ρ) dNext)
  (dBind (dNotV (dCall 4 F_can_close (dACons (dVar 0) (dACons (dCall 1 F_open_pairs (dACons (dVar 0) dANil)) (dACons (dVar 2) (dACons (dOp2 gMin2 (dOp2 gSub (dU gLen (dOp2 gIx (dVar 1) (dC (.int 1)))) (dC (.int 1))) (dC (.int 3))) dANil)))))) fun d ρ => .rt d ρ))))))))
def F_takes_dimension : List D → FR := fnD 5 none B_takes_dimension
end DC
namespace DC
open PySem L2 DL
end DC
namespace DC
open PySem L2 DL
end DC
namespace DL
open PySem PySem.Spec PySem.W PyProof.Rows L2 GenW
structure Chain (b : Int) (N : Nat) (f : Nat → Int) : Prop where
  z : f 0 = 0
  st : ∀ i, i < N → f (i + 1) = Builtin.bitAnd (f i - b) b
  ne : ∀ i, i < N → f i ≠ b
  en : f N = b
def pProto (L : Addr) (N : Nat) (f : Nat → Int) : Protocol := fun m s₀ v s kap => (∃ t, v = .int (f (N - m)) t) ∧ (∃ o, s.heap.get? L = some o ∧ ∀ u, o.data ≠ .cell u) ∧ GenSince L [] s₀ s ∧ ∀ (x : Value) (s'' : Shared), (x = .none ∨ x = .bool true) → (∀ o, s.heap.get? L = some o → s''.heap.get? L = some o) → kap (.send x) s''
def pFin (L : Addr) : Nat → Shared → Shared → Prop := fun n s₀ s₁ => n = 0 ∧ GenSince L [] s₀ s₁
abbrev pEnd (L : Addr) : GenEnd := fun n s₀ r s₁ => ((r = .ok (.ret .none) ∨ r = .ok .next) ∧ pFin L n s₀ s₁) ∨ ∃ e, r = .error e ∧ (fun (_ : Value) (_ : Shared) => False) e s₁
section
variable {P : Program} {w : World} {A : Around} {env : PySem.Env} {b : Int} {N : Nat} {f : Nat → Int}
variable {p1 p2 p3 p4 p5 p6 p7 p8 p9 p10 p11 p12 p13 p14 p15 p16 p17 p18 p19 p20 : Pos} {j0 : Nat}
abbrev pTest (p4 p5 p6 : Pos) : Expr := .Compare (.Name "part" p4) [.NotEq] [.Name "bits" p5] p6
abbrev pBody (p7 p8 p9 p10 p11 p12 p13 p14 p15 p16 : Pos) : List Stmt := [.Expr (.Yield (some (.Name "part" p7)) p8) p9, .Assign [.Name "part" p10] (.BinOp (.BinOp (.Name "part" p11) .Sub (.Name "bits" p12) p13) .BitAnd (.Name "bits" p14) p15) p16]
structure PEnv (env : PySem.Env) : Prop where
  kind : env.scope.kind = .function
  bits : env.kindOf "bits" = some .local
  part : env.kindOf "part" = some .local
  co : env.scope.isCoroutine = false
  ia : interactive env = false
theorem PEnv.cls (E : PEnv env) : (env.scope.kind == .class || (env.scope.kind == .module && env.locals != env.globals)) = false := by rw [E.kind]; rfl
theorem ns_obj {h : Heap} {L : Addr} {m : Str → Option Value} (x : h.Ns L m) : ∃ o, h.get? L = some o ∧ ∀ u, o.data ≠ .cell u := by
  obtain ⟨o, es, ep, ho, hd, _⟩ := x
  exact ⟨o, ho, fun u q => by rw [hd] at q; cases q⟩
theorem bitsNe : ¬ (("bits" : Str) = "part") := by decide +kernel
theorem bits_kept {m : Str → Option Value} {v x : Value} (h : m "bits" = some v) : (fun y : Str => if y = "part" then some x else m y) "bits" = some v := by
  show (if ("bits" : Str) = "part" then some x else m "bits") = _
  rw [if_neg bitsNe]
  exact h
theorem seg_pLoop (E : PEnv env) (C : Chain b N f) {fs : List PySem.Frame} (hsp : splitAtGen fs = none) (hgd : fs.any PySem.Frame.guarded = false)
    (cont : ∀ (s₀ s : Shared) (m : Str → Option Value) (t : Tok), s.heap.Ns env.locals m → m "bits" = some (.int b t) → GenSince env.locals [] s₀ s →
      Seg (model P w) A (pEnd env.locals) (pProto env.locals N f) 1 s₀ (.whileLoop (pTest p4 p5 p6) (pBody p7 p8 p9 p10 p11 p12 p13 p14 p15 p16) [] env) (.pure (.done .next)) fs s) :
    ∀ (k j : Nat) (s₀ s : Shared) (m : Str → Option Value) (t u : Tok), N - j = k → j ≤ N → s.heap.Ns env.locals m → m "bits" = some (.int b t) → m "part" = some (.int (f j) u) → GenSince env.locals [] s₀ s →
      Seg (model P w) A (pEnd env.locals) (pProto env.locals N f) (N + 1 - j) s₀ (.whileLoop (pTest p4 p5 p6) (pBody p7 p8 p9 p10 p11 p12 p13 p14 p15 p16) [] env) ((model P w).den (.whileLoop (pTest p4 p5 p6) (pBody p7 p8 p9 p10 p11 p12 p13 p14 p15 p16) [] env)) fs s := by
  intro k
  induction k with
  | zero =>
    intro j s₀ s m t u hk hj hn hb hp hs
    have hjN : j = N := by omega
    subst hjN
    rw [show j + 1 - j = 1 by omega]
    refine seg_whileLoop (wpAny_isTrue_Compare1 (wpAny_Name (wpAny_loadName_local E.kind E.part hn hp (wpAny_Name (wpAny_loadName_local E.kind E.bits hn hb (ne_int (wpAny_truthy_bool ?_))) (by kernel_rfl))) (by kernel_rfl)))
    rw [C.en, show (b != b) = false by simp, if_neg Bool.false_ne_true]
    exact seg_execs_nil (cont s₀ s m t hn hb hs)
  | succ k ih =>
    intro j s₀ s m t u hk hj hn hb hp hs
    have hlt : j < N := by omega
    obtain ⟨n, hnn⟩ : ∃ n, n = N - j := ⟨_, rfl⟩
    rw [show N + 1 - j = n + 1 by omega]
    refine seg_whileLoop (wpAny_isTrue_Compare1 (wpAny_Name (wpAny_loadName_local E.kind E.part hn hp (wpAny_Name (wpAny_loadName_local E.kind E.bits hn hb (ne_int (wpAny_truthy_bool ?_))) (by kernel_rfl))) (by kernel_rfl)))
    rw [show (f j != b) = true by simpa using C.ne j hlt, if_pos rfl]
    refine seg_execs_cons (seg_Expr_Yield hsp rfl hgd (wpAny_Name (wpAny_loadName_local E.kind E.part hn hp fun kap hkap => ⟨⟨u, by rw [show N - n = j by omega]⟩, ns_obj hn, hs, fun x s'' hx hkeep => hkap x s'' ?_⟩) (by kernel_rfl)) E.co E.ia)
    rcases hx with rfl | rfl
    all_goals
      dsimp only
      have hn2 : s''.heap.Ns env.locals m := hn.at' hkeep
      refine seg_execs_cons (seg_wrap (wpAny_Assign_Name (wpAny_BinOp (wpAny_BinOp (wpAny_Name (wpAny_loadName_local E.kind E.part hn2 hp (wpAny_Name (wpAny_loadName_local E.kind E.bits hn2 hb (sub_int (wpAny_Name (wpAny_loadName_local E.kind E.bits hn2 hb (and_int (wpAny_storeName_local E.part hn2 (fun h' hn' hs' => ?_) E.cls))) (by kernel_rfl)))) (by kernel_rfl))) (by kernel_rfl))))))
      refine seg_execs_nil (seg_again rfl ?_)
      have := ih (j + 1) s'' { s'' with heap := h', toks := s''.toks + 1 + 1 + 1 } _ t _ (by omega) (by omega) hn' (bits_kept hb) (by simp [C.st j hlt]; rfl) (GenSince.step (GenSince.refl _ _ _) fun b o hb _ e => (hs'.2 b hb).trans e)
      rw [show N + 1 - (j + 1) = n by omega] at this
      exact this
theorem seg_parts (E : PEnv env) (C : Chain b N f) (s₀ s : Shared) (m : Str → Option Value) (t : Tok) (hn : s.heap.Ns env.locals m) (hb : m "bits" = some (.int b t)) (hs : GenSince env.locals [] s₀ s) :
    Seg (model P w) A (pEnd env.locals) (pProto env.locals N f) (N + 1) s₀
      (.func [.Assign [.Name "part" p1] (.Constant (.int 0) j0 p2) p3, .While (pTest p4 p5 p6) (pBody p7 p8 p9 p10 p11 p12 p13 p14 p15 p16) [] p17, .Expr (.Yield (some (.Name "bits" p18)) p19) p20] env)
      ((model P w).den (.func [.Assign [.Name "part" p1] (.Constant (.int 0) j0 p2) p3, .While (pTest p4 p5 p6) (pBody p7 p8 p9 p10 p11 p12 p13 p14 p15 p16) [] p17, .Expr (.Yield (some (.Name "bits" p18)) p19) p20] env)) [] s := by
  refine seg_func (seg_execs_cons (seg_wrap (wpAny_Assign_Name (wpAny_Constant_int (wpAny_storeName_local E.part (s := { s with toks := s.toks + 1 }) hn (fun h' hn' hs' => ?_) E.cls)))))
  refine seg_execs_cons (seg_While fun p => ?_)
  have hs2 : GenSince env.locals [] s₀ { s with heap := h', toks := s.toks + 1 + 1 } := hs.step fun b o hb _ e => (hs'.2 b hb).trans e
  refine seg_pLoop E C rfl rfl (fun s₀' s' m' t' hn2 hb2 hs3 => ?_) N 0 s₀ _ _ t _ (by omega) (Nat.zero_le _) hn' (bits_kept hb) (by simp [C.z]; rfl) hs2
  refine seg_leaf (.ok .next) ?_
  refine seg_execs_cons (seg_Expr_Yield rfl rfl rfl (wpAny_Name (wpAny_loadName_local E.kind E.bits hn2 hb2 fun kap hkap => ⟨⟨t', by rw [Nat.sub_zero, C.en]⟩, ns_obj hn2, hs3, fun x s'' hx hkeep => hkap x s'' ?_⟩) (by kernel_rfl)) E.co E.ia)
  rcases hx with rfl | rfl
  all_goals exact seg_execs_nil (seg_end (.ok (.ret .none)) (.inl ⟨.inl rfl, rfl, GenSince.refl _ _ _⟩))
end
end DL
namespace DL
open PySem PySem.Spec PySem.W PyProof.Rows L2 GenW
section
variable {X : Cx} {pins : List (Addr × Obj)} {σ : L2.St} {H : Hp} {s : Shared} {h' : Heap}
theorem inv_turnG {t' : Nat} {g' : Array GenState} {it : Addr} (I : Inv X pins σ H s) (k : ∀ b o, b ≠ it → s.heap.get? b = some o → h'.get? b = some o) (hn : H it = none) (hL : it ≠ X.env.locals)
    (h1 : it ∈ X.ex ∨ X.s_0.heap.objs.size ≤ it) (h2 : ∀ x c, X.env.cells.lookup x = some c → c ≠ it) (h3 : ∀ p ∈ X.pn ++ pins, p.1 ≠ it) (hg : AllBare g') : Inv X pins σ H { s with heap := h', gens := g', toks := t' } := by
  have nit : ∀ b u, H b = some u → b ≠ it := fun b u e z => by rw [z, hn] at e; cases e
  refine I.step (g' := g') (d' := s.drawn) (ch := [it]) (fun b hb => ?_) (fun b o _ _ hc e _ => k b o (fun z => hc (by simp [z])) e) (fun b o _ _ hc e _ => ⟨o.slots, k b o (fun z => hc (by simp [z])) e⟩) (fun _ _ _ _ n => n)
    (fun b o hc e => ⟨o, k b o (fun z => hc (by simp [z])) e⟩) (fun _ _ e => e) (fun _ _ _ e => e) (fun b ps e => ⟨#[], by rw [e]; simp⟩) (fun m hm => ?_) (fun b u e => ?_) hg
  · rw [List.mem_singleton.mp hb]
    exact ⟨h1, hL, h2, h3⟩
  · obtain ⟨o, es, ep, ho, r⟩ := hm
    exact ⟨o, es, ep, k _ o (Ne.symm hL) ho, r⟩
  · refine (I.hok b u e).stay (fun c v hc q => k c v ?_ q) (fun _ q => q) fun _ _ q => q
    rcases hc with z | z
    · rw [z]; exact nit b u e
    · exact nit c _ z
end
def IsParts (stb : List Stmt) : Prop := ∃ (p1 p2 p3 p4 p5 p6 p7 p8 p9 p10 p11 p12 p13 p14 p15 p16 p17 p18 p19 p20 : Pos) (j0 : Nat),
  stb = [.Assign [.Name "part" p1] (.Constant (.int 0) j0 p2) p3, .While (pTest p4 p5 p6) (pBody p7 p8 p9 p10 p11 p12 p13 p14 p15 p16) [] p17, .Expr (.Yield (some (.Name "bits" p18)) p19) p20]
theorem seg_isParts {P : Program} {w : World} {A : Around} {env : PySem.Env} {b : Int} {N : Nat} {f : Nat → Int} {stb : List Stmt} (hst : IsParts stb) (E : PEnv env) (C : Chain b N f) (s₀ s : Shared) (m : Str → Option Value) (t : Tok) (hn : s.heap.Ns env.locals m) (hb : m "bits" = some (.int b t)) (hs : GenSince env.locals [] s₀ s) :
    Seg (model P w) A (pEnd env.locals) (pProto env.locals N f) (N + 1) s₀ (.func stb env) ((model P w).den (.func stb env)) [] s := by
  obtain ⟨p1, p2, p3, p4, p5, p6, p7, p8, p9, p10, p11, p12, p13, p14, p15, p16, p17, p18, p19, p20, j0, rfl⟩ := hst
  exact seg_parts E C s₀ s m t hn hb hs
structure PMade (b : Int) (s1 : Shared) (u : Value) (s' : Shared) : Prop where
  ex : ∃ (env : PySem.Env) (stb : List Stmt) (h' : Heap) (tk : Nat) (a : Addr), u = .ref a ∧ s' = { s1 with heap := h', gens := s1.gens.push (.fresh (.func stb env)), toks := tk } ∧ IsParts stb ∧ PEnv env ∧
    s1.heap.objs.size ≤ a ∧ s1.heap.objs.size ≤ env.locals ∧ a ≠ env.locals ∧ a < h'.objs.size ∧ env.locals < h'.objs.size ∧ (∀ c o, s1.heap.get? c = some o → h'.get? c = some o) ∧ h'.IsGen a s1.gens.size ∧ ∃ m t, h'.Ns env.locals m ∧ m "bits" = some (.int b t)
theorem call_parts {X : Cx} {pins : List (Addr × Obj)} {σ : L2.St} {H : Hp} {s : Shared} {x qual : Str} {f : Addr} {fd : FuncData} {params : Arguments} {stb : List Stmt} {scope : Scope} {b : Int} {t : Tok} {A : Around} {E : Value → Shared → Prop} {Q : Value → Shared → Prop}
    (F : FunD X.K x qual params stb scope [] [] f fd) (hst : IsParts stb) (hk : scope.kind = .function) (hco : scope.isCoroutine = false) (hge : scope.isGenerator = true) (hbl : scope.names.lookup ("bits" : Str) = some NameKind.local) (hpl : scope.names.lookup ("part" : Str) = some NameKind.local)
    (hia : ∀ (L : Addr) (cd : Value), interactive (envOfC qual scope L f cd) = false) (hb : Binds X.K fd ["bits"] []) (hd : A.depth < recursionLimit) (I : Inv X pins σ H s) (hq : ∀ u s', PMade b s u s' → Q u s') :
    wpAny (model X.prog X.w) A (call (.ref f) [.int b t]) Q E s := by
  obtain ⟨oc, od, dV, kV, doc, pm, an, cdv, ct, osl, rfl, lk, hcd, _, _⟩ := F.ex
  have KX : X.K.In s.heap := I.kIn
  have lim : s.heap.NoLimit := I.nolimit
  refine wpAny_call (codeAny_call_generator hd (KX _ _ lk) rfl hco hge rfl (PySem.W.codeRec_of KX hcd) (hb s [.int b t] KX rfl _ _ _ _ ?_))
  refine wpAny_newFunctionEnv_cells hk (fun y hy => ?_) fun env he s1 xc => ?_
  · have : y = (("bits" : Str), Value.int b t) := by simpa using hy
    rw [this]
    exact .inl hbl
  subst he
  have lim1 : s1.heap.NoLimit := lim.keeps xc.toInCall.keep
  obtain ⟨h1, tk, es1, hk1⟩ := xc.done
  have lt1 : s.heap.objs.size < s1.heap.objs.size := xc.toInCall.ns.lt
  have kp1 : ∀ c o, s.heap.get? c = some o → s1.heap.get? c = some o := xc.toInCall.keep
  have hns := xc.toInCall.ns
  have gen1 : s1.gens = s.gens := by rw [es1]
  have main : ∀ (go : Obj) (nm qn : Value) (tk2 : Nat), go.cls = .type "generator" → go.data = .fields #[.int s1.gens.size 0, nm, qn] → go.slots = #[] → (∀ h : Heap, (h.push go).get? h.objs.size = some go) →
      PMade b s (.ref s1.heap.objs.size) { s1 with gens := s1.gens.push (.fresh (.func stb (envOfC qual scope s.heap.objs.size f cdv))), toks := tk2, heap := s1.heap.push go } := by
    intro go nm qn tk2 hgc hgd hgs hgp
    refine ⟨envOfC qual scope s.heap.objs.size f cdv, stb, s1.heap.push go, tk2, s1.heap.objs.size, rfl, ?_, hst, ⟨hk, hbl, hpl, hco, hia _ _⟩, Nat.le_of_lt lt1, Nat.le_refl _, Nat.ne_of_gt lt1, ?_, ?_, fun c o e => Heap.get?_push_of_some _ (kp1 c o e), ⟨go, nm, qn, hgp _, hgc, ?_, hgs⟩, _, t, hns.keeps fun c o e => Heap.get?_push_of_some _ e, ?_⟩
    · rw [es1]
    · rw [Heap.size_push]; exact Nat.lt_succ_self _
    · rw [Heap.size_push]; exact Nat.lt_succ_of_lt lt1
    · rw [← gen1]; exact hgd
    · exact bindL_get (P := ["bits"]) (vs := [Value.int b t]) (i := 0) (by simp) rfl rfl hbl
  exact ⟨lim1, hq _ _ (main _ _ _ _ rfl rfl rfl fun h => Heap.get?_push_size _ rfl)⟩
end DL
namespace DL
open PySem PySem.Spec PySem.W PyProof.Rows L2 GenW
theorem setGen_two {s : Shared} {g : Nat} {x y : GenState} {gs : GenState} (h : s.gens[g]? = some gs) (hp : Heap) (tk : Nat) : ({ s.setGen g x with heap := hp, toks := tk } : Shared).setGen g y = { s with heap := hp, toks := tk, gens := s.gens.setIfInBounds g y } := by
  show ({ s with heap := hp, toks := tk, gens := (s.gens.setIfInBounds g x).setIfInBounds g y } : Shared) = _
  rw [Array.setIfInBounds_setIfInBounds]
theorem bare_set {G : Array GenState} {g : Nat} {x : GenState} (h : AllBare G) (hx : x.bare = true) : AllBare (G.setIfInBounds g x) := fun y hy => by
  rcases Array.mem_or_eq_of_mem_setIfInBounds hy with q | q
  · exact h y q
  · rw [q]; exact hx
end DL
namespace DL
open PySem PySem.Spec PySem.W PyProof.Rows L2 GenW
def partsO (b : Int) : Nat → Int → Option (List Int)
  | 0, p => if p = b then some [p] else none
  | m + 1, p => if p = b then some [p] else (partsO b m (Builtin.bitAnd (p - b) b)).map (p :: ·)
theorem chain_of {b : Int} : ∀ {m : Nat} {p : Int} {l : List Int}, partsO b m p = some l →
    ∃ (N : Nat) (f : Nat → Int), f 0 = p ∧ (∀ i, i < N → f (i + 1) = Builtin.bitAnd (f i - b) b) ∧ (∀ i, i < N → f i ≠ b) ∧ f N = b ∧ N ≤ m ∧ l = (List.range (N + 1)).map f
  | 0, p, l, h => by
    unfold partsO at h
    split at h
    · rename_i e
      cases h
      exact ⟨0, fun _ => p, rfl, fun i hi => absurd hi (Nat.not_lt_zero _), fun i hi => absurd hi (Nat.not_lt_zero _), e, Nat.le_refl _, rfl⟩
    · cases h
  | m + 1, p, l, h => by
    unfold partsO at h
    split at h
    · rename_i e
      cases h
      exact ⟨0, fun _ => p, rfl, fun i hi => absurd hi (Nat.not_lt_zero _), fun i hi => absurd hi (Nat.not_lt_zero _), e, Nat.zero_le _, rfl⟩
    · rename_i e
      obtain ⟨l', hl, rfl⟩ := Option.map_eq_some_iff.mp h
      obtain ⟨N, f, h0, h1, h2, h3, h4, rfl⟩ := chain_of hl
      refine ⟨N + 1, fun i => match i with | 0 => p | i + 1 => f i, rfl, fun i hi => ?_, fun i hi => ?_, h3, Nat.succ_le_succ h4, ?_⟩
      · cases i with
        | zero => exact h0
        | succ i => exact h1 i (Nat.lt_of_succ_lt_succ hi)
      · cases i with
        | zero => exact e
        | succ i => exact h2 i (Nat.lt_of_succ_lt_succ hi)
      · rw [List.range_succ_eq_map (n := N + 1), List.map_cons, List.map_map]
        rfl
def oneP (r : V → Hp → VK → Prop) (Q : VK) : List V → Hp → Prop := fun vs H1 => match vs with
  | [x] => r x H1 Q
  | _ => False
end DL
namespace GSw
open PySem
open Sem (wp)
theorem split_app : ∀ {a b : List PySem.Frame}, splitAtGen a = none → splitAtGen b = none → splitAtGen (a ++ b) = none
  | [], b, _, h => h
  | .ret k h g l c p kp :: r, b, h1, h2 => by
    have e : splitAtGen r = none := by
      have h1 : (splitAtGen r).map _ = none := h1
      exact Option.map_eq_none_iff.mp h1
    show (splitAtGen (r ++ b)).map _ = none
    rw [split_app e h2]
    rfl
  | .gen g k l c p :: r, b, h1, _ => nomatch h1
theorem split_tl {k : Result → Sem PySem.Fin} {h : Option Value} {g : Bool} {l : List Value} {c : Code} {p : Pos} {kp : List Value} {r : List PySem.Frame} (h1 : splitAtGen (.ret k h g l c p kp :: r) = none) : splitAtGen r = none := by
  have h1 : (splitAtGen r).map _ = none := h1
  exact Option.map_eq_none_iff.mp h1
def poiF (F : PySem.Frame) : PySem.Frame := .ret (fun _ => .unsupported "") none false [] F.where_.1 F.where_.2 []
def poi : GenState → GenState
  | .suspended _ _ c p fs cl => .suspended (fun _ => .unsupported "") [] c p (fs.map poiF) cl
  | x => x
theorem seen_poi (x : GenState) : (poi x).seen = x.seen := by
  cases x with
  | suspended k l c p fs cl =>
    show ((GenStatus.suspended, some ((c, p) :: (fs.map poiF).map PySem.Frame.where_)) : GenStatus × Option (List (Code × Pos))) = _
    rw [List.map_map]
    rfl
  | fresh c => rfl
  | running => rfl
  | finished => rfl
theorem bare_poi (x : GenState) : (poi x).bare = x.bare := by cases x <;> rfl
theorem split_poi (fs : List PySem.Frame) : splitAtGen (fs.map poiF) = none := by
  induction fs with
  | nil => rfl
  | cons F r ih =>
    show (splitAtGen (r.map poiF)).map _ = none
    rw [ih]
    rfl
theorem no_unsup {M : Model} {Γ : Ctx} {p : Pos} {w : String} {s s' : Shared} {e : End} : ¬ Runs M Γ p (.unsupported w) [] s e s' := fun h => nomatch h
theorem no_unsupF {M : Model} {Γ : Ctx} {p : Pos} {w : String} {fs : List PySem.Frame} {s s' : Shared} {e : End} : ¬ Runs M Γ p (.unsupported w) fs s e s' := fun h => by
  cases h with
  | segRet h1 _ => exact no_unsup h1
  | segGen h1 _ => exact no_unsup h1
  | segSuspOut _ h1 => exact no_unsup h1
  | segSuspGen _ h1 _ _ => exact no_unsup h1
structure Rel (J : Nat → Option GenState) (S T : Array GenState) : Prop where
  sz : S.size = T.size
  same : ∀ i, J i = none → S[i]? = T[i]?
  bad : ∀ i y, J i = some y → (∃ k l c p fs cl, y = GenState.suspended k l c p fs cl) ∧ S[i]? = some (poi y) ∧ T[i]? = some y
def NGT (S : Array GenState) : Prop := ∀ (i : Nat) (k : Resume → Sem PySem.Fin) (l : List Value) (c : Code) (p : Pos) (fs : List PySem.Frame) (cl : Bool), S[i]? = some (GenState.suspended k l c p fs cl) → splitAtGen fs = none
theorem Rel.lt {J : Nat → Option GenState} {S T : Array GenState} (r : Rel J S T) {i : Nat} {y : GenState} (h : J i = some y) : i < S.size := (Array.getElem?_eq_some_iff.mp (r.bad i y h).2.1).1
theorem Rel.set {J : Nat → Option GenState} {S T : Array GenState} (r : Rel J S T) {g : Nat} (hg : J g = none) (x : GenState) : Rel J (S.setIfInBounds g x) (T.setIfInBounds g x) := by
  refine ⟨by rw [Array.size_setIfInBounds, Array.size_setIfInBounds, r.sz], fun i hi => ?_, fun i y hi => ?_⟩
  · by_cases e : g = i
    · subst e
      rw [Array.getElem?_setIfInBounds_self, Array.getElem?_setIfInBounds_self, r.sz]
    · rw [Array.getElem?_setIfInBounds_ne e, Array.getElem?_setIfInBounds_ne e]
      exact r.same i hi
  · have e : g ≠ i := fun e => by rw [← e, hg] at hi; cases hi
    rw [Array.getElem?_setIfInBounds_ne e, Array.getElem?_setIfInBounds_ne e]
    exact r.bad i y hi
theorem Rel.push {J : Nat → Option GenState} {S T : Array GenState} (r : Rel J S T) (x : GenState) : Rel J (S.push x) (T.push x) := by
  refine ⟨by rw [Array.size_push, Array.size_push, r.sz], fun i hi => ?_, fun i y hi => ?_⟩
  · rw [Array.getElem?_push, Array.getElem?_push, r.sz, r.same i hi]
  · have hlt := r.lt hi
    obtain ⟨h1, h2, h3⟩ := r.bad i y hi
    refine ⟨h1, ?_, ?_⟩
    · rw [Array.getElem?_push, if_neg (Nat.ne_of_lt hlt)]
      exact h2
    · rw [Array.getElem?_push, if_neg (by rw [← r.sz]; exact Nat.ne_of_lt hlt)]
      exact h3
theorem NGT.set {S : Array GenState} (h : NGT S) {g : Nat} {x : GenState} (hx : ∀ k l c p fs cl, x = GenState.suspended k l c p fs cl → splitAtGen fs = none) : NGT (S.setIfInBounds g x) := fun i k l c p fs cl e => by
  by_cases q : g = i
  · subst q
    rw [Array.getElem?_setIfInBounds_self] at e
    split at e
    · exact hx k l c p fs cl (Option.some.inj e)
    · cases e
  · rw [Array.getElem?_setIfInBounds_ne q] at e
    exact h i k l c p fs cl e
theorem NGT.push {S : Array GenState} (h : NGT S) {c0 : Code} : NGT (S.push (.fresh c0)) := fun i k l c p fs cl e => by
  rw [Array.getElem?_push] at e
  split at e
  · cases e
  · exact h i k l c p fs cl e
theorem Rel.look {J : Nat → Option GenState} {S T : Array GenState} (r : Rel J S T) {g : Nat} {x : GenState} (h : S[g]? = some x) (hx : ∀ k l c p fs cl, x ≠ GenState.suspended k l c p fs cl) : J g = none ∧ T[g]? = some x := by
  cases e : J g with
  | none => exact ⟨rfl, by rw [← r.same g e]; exact h⟩
  | some y =>
    obtain ⟨⟨k, l, c, p, fs, cl, rfl⟩, h2, _⟩ := r.bad g y e
    rw [h] at h2
    exact absurd (Option.some.inj h2) (hx _ _ _ _ _ _)
theorem Rel.seen {J : Nat → Option GenState} {S T : Array GenState} (r : Rel J S T) {g : Nat} {x : GenState} (h : S[g]? = some x) : ∃ y, T[g]? = some y ∧ y.seen = x.seen := by
  cases e : J g with
  | none => exact ⟨x, by rw [← r.same g e]; exact h, rfl⟩
  | some y =>
    obtain ⟨_, h2, h3⟩ := r.bad g y e
    rw [h] at h2
    exact ⟨y, h3, by rw [Option.some.inj h2, seen_poi]⟩
def EndOk (e : End) : Prop := ∀ v g l k c p f, e = .susp v g l k c p f → splitAtGen f = none
theorem EndOk.gen {e : End} (h : EndOk e) : ∀ k l c p fs cl, e.genState = GenState.suspended k l c p fs cl → splitAtGen fs = none := fun k l c p fs cl q => by
  cases e with
  | ret r => cases q
  | susp v g l' k' c' p' fs' =>
    injection q with q1 q2 q3 q4 q5 q6
    rw [← q5]
    exact h _ _ _ _ _ _ _ rfl
theorem runs_swap {M : Model} {J : Nat → Option GenState} {Γ : Ctx} {p : Pos} {t : Sem PySem.Fin} {fs : List PySem.Frame} {s s' : Shared} {e : End} (h : Runs M Γ p t fs s e s') :
    splitAtGen fs = none → NGT s.gens → ∀ T, Rel J s.gens T → ∃ T', Runs M Γ p t fs { s with gens := T } e { s' with gens := T' } ∧ Rel J s'.gens T' ∧ NGT s'.gens ∧ EndOk e := by
  induction h with
  | done => exact fun _ n T r => ⟨T, .done, r, n, fun _ _ _ _ _ _ _ q => nomatch q⟩
  | raise => exact fun _ n T r => ⟨T, .raise, r, n, fun _ _ _ _ _ _ _ q => nomatch q⟩
  | again hq _ ih => exact fun f n T r => let ⟨T', a, b⟩ := ih f n T r; ⟨T', .again hq a, b⟩
  | rule _ ih => exact fun f n T r => let ⟨T', a, b⟩ := ih f n T r; ⟨T', .rule a, b⟩
  | «at» _ ih => exact fun f n T r => let ⟨T', a, b⟩ := ih f n T r; ⟨T', .at a, b⟩
  | load ho _ ih => exact fun f n T r => let ⟨T', a, b⟩ := ih f n T r; ⟨T', .load ho a, b⟩
  | update ho _ ih => exact fun f n T r => let ⟨T', a, b⟩ := ih f n T r; ⟨T', .update ho a, b⟩
  | loadIfAlive _ ih => exact fun f n T r => let ⟨T', a, b⟩ := ih f n T r; ⟨T', .loadIfAlive a, b⟩
  | point _ ih => exact fun f n T r => let ⟨T', a, b⟩ := ih f n T r; ⟨T', .point a, b⟩
  | alloc _ ih => exact fun f n T r => let ⟨T', a, b⟩ := ih f n T r; ⟨T', .alloc a, b⟩
  | fresh _ ih => exact fun f n T r => let ⟨T', a, b⟩ := ih f n T r; ⟨T', .fresh a, b⟩
  | ask _ ih => exact fun f n T r => let ⟨T', a, b⟩ := ih f n T r; ⟨T', .ask a, b⟩
  | choose hn _ ih => exact fun f n T r => let ⟨T', a, b⟩ := ih f n T r; ⟨T', .choose hn a, b⟩
  | os _ ih => exact fun f n T r => let ⟨T', a, b⟩ := ih f n T r; ⟨T', .os a, b⟩
  | handled _ ih => exact fun f n T r => let ⟨T', a, b⟩ := ih f n T r; ⟨T', .handled a, b⟩
  | stack _ ih => exact fun f n T r => let ⟨T', a, b⟩ := ih f n T r; ⟨T', .stack a, b⟩
  | thread _ ih => exact fun f n T r => let ⟨T', a, b⟩ := ih f n T r; ⟨T', .thread a, b⟩
  | genState hg _ ih =>
    intro f n T r
    obtain ⟨T', a, b⟩ := ih f n T r
    obtain ⟨y, hT, hs⟩ := r.seen hg
    exact ⟨T', .genState hT (by rw [hs]; exact a), b⟩
  | newGen _ ih =>
    intro f n T r
    obtain ⟨T', a, b⟩ := ih f (NGT.push n) _ (r.push _)
    rw [r.sz] at a
    exact ⟨T', .newGen a, b⟩
  | call _ _ ih1 ih2 =>
    intro f n T r
    obtain ⟨T1, a, b, c, d⟩ := ih1 rfl n T r
    obtain ⟨T2, a2, b2⟩ := ih2 rfl c T1 b
    exact ⟨T2, .call a a2, b2⟩
  | callSusp _ ih =>
    intro f n T r
    obtain ⟨T1, a, b, c, d⟩ := ih rfl n T r
    refine ⟨T1, .callSusp a, b, c, fun v g l k c' p' f' q => ?_⟩
    injection q with q1 q2 q3 q4 q5 q6 q7
    rw [← q7]
    exact split_app (d _ _ _ _ _ _ _ rfl) rfl
  | yield => exact fun _ n T r => ⟨T, .yield, r, n, fun v g l k c' p' f' q => by injection q with q1 q2 q3 q4 q5 q6 q7; rw [← q7]; rfl⟩
  | resumeFresh hg _ hq _ ih1 ih2 =>
    intro f n T r
    obtain ⟨j, hT⟩ := r.look hg fun _ _ _ _ _ _ q => nomatch q
    obtain ⟨T1, a, b, c, d⟩ := ih1 rfl (n.set fun _ _ _ _ _ _ q => nomatch q) _ (r.set j .running)
    obtain ⟨T2, a2, b2⟩ := ih2 rfl (c.set d.gen) _ (b.set j _)
    exact ⟨T2, .resumeFresh hT a hq a2, b2⟩
  | resumeSuspended hg h1 hq _ ih1 ih2 =>
    intro f n T r
    rename_i Γ p g r0 l k s k₀ l₀ c₀ p₀ fs cl e₁ s₁ e s' h2
    cases j : J g with
    | some y =>
      obtain ⟨⟨k, l, c, p, fs, cl, rfl⟩, h3, _⟩ := r.bad g y j
      rw [hg] at h3
      injection (Option.some.inj h3) with e1
      rw [e1] at h1
      exact (no_unsupF h1).elim
    | none =>
      have hT : T[g]? = _ := (r.same g j).symm.trans hg
      obtain ⟨T1, a, b, c, d⟩ := ih1 (n _ _ _ _ _ _ _ hg) (n.set fun _ _ _ _ _ _ q => nomatch q) _ (r.set j .running)
      obtain ⟨T2, a2, b2⟩ := ih2 rfl (c.set d.gen) _ (b.set j _)
      exact ⟨T2, .resumeSuspended hT a hq a2, b2⟩
  | resumeJustStarted hg hv _ ih =>
    intro f n T r
    obtain ⟨j, hT⟩ := r.look hg fun _ _ _ _ _ _ q => nomatch q
    obtain ⟨T1, a, b⟩ := ih f n T r
    exact ⟨T1, .resumeJustStarted hT hv a, b⟩
  | resumeThrowFresh hg _ ih =>
    intro f n T r
    obtain ⟨j, hT⟩ := r.look hg fun _ _ _ _ _ _ q => nomatch q
    obtain ⟨T1, a, b⟩ := ih f (n.set fun _ _ _ _ _ _ q => nomatch q) _ (r.set j .finished)
    exact ⟨T1, .resumeThrowFresh hT a, b⟩
  | resumeRunning hg _ ih =>
    intro f n T r
    obtain ⟨j, hT⟩ := r.look hg fun _ _ _ _ _ _ q => nomatch q
    obtain ⟨T1, a, b⟩ := ih f n T r
    exact ⟨T1, .resumeRunning hT a, b⟩
  | resumeFinished hg _ ih =>
    intro f n T r
    obtain ⟨j, hT⟩ := r.look hg fun _ _ _ _ _ _ q => nomatch q
    obtain ⟨T1, a, b⟩ := ih f n T r
    exact ⟨T1, .resumeFinished hT a, b⟩
  | segRet _ _ ih1 ih2 =>
    intro f n T r
    obtain ⟨T1, a, b, c, d⟩ := ih1 rfl n T r
    obtain ⟨T2, a2, b2⟩ := ih2 (split_tl f) c T1 b
    exact ⟨T2, .segRet a a2, b2⟩
  | segGen _ _ _ _ => exact fun f => nomatch f
  | segSuspOut hs _ ih =>
    intro f n T r
    obtain ⟨T1, a, b, c, d⟩ := ih rfl n T r
    refine ⟨T1, .segSuspOut hs a, b, c, fun v g l k c' p' f' q => ?_⟩
    injection q with q1 q2 q3 q4 q5 q6 q7
    rw [← q7]
    exact split_app (d _ _ _ _ _ _ _ rfl) f
  | segSuspGen hs _ _ _ _ _ => exact fun f => by rw [f] at hs; cases hs
end GSw
namespace GSw
open PySem
open Sem (wp)
theorem wakes_swap {M : Model} {J : Nat → Option GenState} {Γ : Ctx} {p : Pos} {g : Nat} {r : Resume} {s s' : Shared} {res : GenResult} (h : Wakes M Γ p g r s res s') (n : NGT s.gens) {T : Array GenState} (rl : Rel J s.gens T) :
    ∃ T', Wakes M Γ p g r { s with gens := T } res { s' with gens := T' } ∧ Rel J s'.gens T' ∧ NGT s'.gens := by
  unfold Wakes at h
  split at h
  · exact h.elim
  · rename_i c hg
    obtain ⟨j, hT⟩ := rl.look hg fun _ _ _ _ _ _ q => nomatch q
    have hT' : ({ s with gens := T } : Shared).gens[g]? = some (.fresh c) := hT
    split at h
    · obtain ⟨e₁, s₁, hr, hq, rfl, rfl⟩ := h
      obtain ⟨T1, a, b, d, e⟩ := runs_swap hr rfl (n.set fun _ _ _ _ _ _ q => nomatch q) _ (rl.set j .running)
      refine ⟨T1.setIfInBounds g e₁.genState, ?_, b.set j _, d.set e.gen⟩
      unfold Wakes
      rw [hT']
      exact ⟨e₁, _, a, hq, rfl, rfl⟩
    · rename_i v hv
      obtain ⟨rfl, rfl⟩ := h
      refine ⟨T, ?_, rl, n⟩
      unfold Wakes
      rw [hT']
      cases v with
      | none => exact absurd rfl hv
      | _ => exact ⟨rfl, rfl⟩
    · obtain ⟨rfl, rfl⟩ := h
      refine ⟨T.setIfInBounds g .finished, ?_, rl.set j _, n.set fun _ _ _ _ _ _ q => nomatch q⟩
      unfold Wakes
      rw [hT']
      exact ⟨rfl, rfl⟩
  · rename_i k l c p0 fs cl hg
    obtain ⟨e₁, s₁, hr, hq, rfl, rfl⟩ := h
    cases j : J g with
    | some y =>
      obtain ⟨⟨k', l', c', p', fs', cl', rfl⟩, h3, _⟩ := rl.bad g y j
      rw [hg] at h3
      injection (Option.some.inj h3) with e1
      rw [e1] at hr
      exact (no_unsupF hr).elim
    | none =>
      have hT' : ({ s with gens := T } : Shared).gens[g]? = some (.suspended k l c p0 fs cl) := (rl.same g j).symm.trans hg
      obtain ⟨T1, a, b, d, e⟩ := runs_swap hr (n _ _ _ _ _ _ _ hg) (n.set fun _ _ _ _ _ _ q => nomatch q) _ (rl.set j .running)
      refine ⟨T1.setIfInBounds g e₁.genState, ?_, b.set j _, d.set e.gen⟩
      unfold Wakes
      rw [hT']
      exact ⟨e₁, _, a, hq, rfl, rfl⟩
  · rename_i hg
    obtain ⟨j, hT⟩ := rl.look hg fun _ _ _ _ _ _ q => nomatch q
    have hT' : ({ s with gens := T } : Shared).gens[g]? = some .running := hT
    obtain ⟨rfl, rfl⟩ := h
    refine ⟨T, ?_, rl, n⟩
    unfold Wakes
    rw [hT']
    exact ⟨rfl, rfl⟩
  · rename_i hg
    obtain ⟨j, hT⟩ := rl.look hg fun _ _ _ _ _ _ q => nomatch q
    have hT' : ({ s with gens := T } : Shared).gens[g]? = some .finished := hT
    obtain ⟨rfl, rfl⟩ := h
    refine ⟨T, ?_, rl, n⟩
    unfold Wakes
    rw [hT']
    exact ⟨rfl, rfl⟩
def Swp {α : Type} (J : Nat → Option GenState) (Q : α → Shared → Prop) (a : α) (s' : Shared) : Prop := ∃ s1 : Shared, NGT s1.gens ∧ Rel J s1.gens s'.gens ∧ s' = { s1 with gens := s'.gens } ∧ Q a s1
theorem swp_mk {α : Type} {J : Nat → Option GenState} {Q : α → Shared → Prop} {a : α} {s1 : Shared} {T : Array GenState} (n : NGT s1.gens) (r : Rel J s1.gens T) (h : Q a s1) : Swp J Q a { s1 with gens := T } := ⟨s1, n, r, rfl, h⟩
theorem wp_swap {M : Model} {Γ : Ctx} {α : Type} {J : Nat → Option GenState} (t : Sem α) : ∀ (Q : α → Pos → Shared → Prop) (E : Value → Pos → Shared → Prop) (p : Pos) (s : Shared) (T : Array GenState), NGT s.gens → Rel J s.gens T → wp M Γ t Q E p s →
    wp M Γ t (fun a p' s' => Swp J (fun a s1 => Q a p' s1) a s') (fun e p' s' => Swp J (fun e s1 => E e p' s1) e s') p { s with gens := T } := by
  induction t with
  | pure a => intro Q E p s T n r h; exact swp_mk n r h
  | raise e => intro Q E p s T n r h; exact swp_mk (Q := fun e s1 => E e p s1) n r h
  | unsupported _ => intro Q E p s T _ _ h; exact h
  | finish _ => intro Q E p s T _ _ h; exact h
  | rule _ k ih => intro Q E p s T n r h; exact ih () Q E p s T n r h
  | «at» p' k ih => intro Q E p s T n r h; exact ih () Q E p' s T n r h
  | load a _ k ih => intro Q E p s T n r h; obtain ⟨o, ho, h⟩ := h; exact ⟨o, ho, ih o Q E p s T n r h⟩
  | update a _ f k ih => intro Q E p s T n r h; exact ⟨h.1, ih () Q E p { s with heap := s.heap.update a f } T n r h.2⟩
  | loadIfAlive a k ih => intro Q E p s T n r h; exact ih _ Q E p s T n r h
  | point _ k ih => intro Q E p s T n r h; exact ih () Q E p s T n r h
  | register _ _ => intro Q E p s T _ _ h; exact h
  | alloc o k ih => intro Q E p s T n r h; exact ih _ Q E p { s with heap := s.heap.push o } T n r h
  | fresh k ih => intro Q E p s T n r h; exact ih _ Q E p { s with toks := s.toks + 1 } T n r h
  | ask k ih => intro Q E p s T n r h; exact ih _ Q E p s T n r h
  | choose src m k ih => intro Q E p s T n r h; exact ⟨h.1, ih _ Q E p { s with drawn := s.drawn.bump src } T n r h.2⟩
  | os q _ k ih => intro Q E p s T n r h; exact ih _ Q E p { s with os := (Os.step s.os q).1 } T n r h
  | call c hd _ _ k ih =>
    intro Q E p s T n r h
    obtain ⟨res, s', hr, h⟩ := h
    obtain ⟨T', a, b, d, _⟩ := runs_swap hr rfl n T r
    exact ⟨res, { s' with gens := T' }, a, ih res Q E p s' T' d b h⟩
  | handled own k ih => intro Q E p s T n r h; exact ih _ Q E p s T n r h
  | genState g k ih =>
    intro Q E p s T n r h
    obtain ⟨st, hs, h⟩ := h
    obtain ⟨y, hT, hy⟩ := r.seen hs
    exact ⟨y, hT, by rw [hy]; exact ih _ Q E p s T n r h⟩
  | newGen c k ih =>
    intro Q E p s T n r h
    have := ih _ Q E p { s with gens := s.gens.push (.fresh c) } (T.push (.fresh c)) n.push (r.push _) h
    rw [r.sz] at this
    exact this
  | resume g rr _ k ih =>
    intro Q E p s T n r h
    obtain ⟨res, s', hw, h⟩ := h
    obtain ⟨T', a, b, d⟩ := wakes_swap hw n r
    exact ⟨res, { s' with gens := T' }, a, ih res Q E p s' T' d b h⟩
  | yield _ _ _ _ => intro Q E p s T _ _ h; exact h
  | stack k ih => intro Q E p s T n r h; exact ih _ Q E p s T n r h
  | fork _ _ => intro Q E p s T _ _ h; exact h
  | thread k ih => intro Q E p s T n r h; exact ih _ Q E p s T n r h
  | await _ _ _ _ _ => intro Q E p s T _ _ h; exact h
def shadow (G : Array GenState) : Array GenState := G.map poi
def jOf (G : Array GenState) : Nat → Option GenState := fun i => match G[i]? with
  | some (.suspended k l c p fs cl) => some (.suspended k l c p fs cl)
  | _ => none
theorem poi_other {x : GenState} (h : ∀ k l c p fs cl, x ≠ GenState.suspended k l c p fs cl) : poi x = x := by
  cases x with
  | suspended k l c p fs cl => exact absurd rfl (h _ _ _ _ _ _)
  | fresh c => rfl
  | running => rfl
  | finished => rfl
theorem shadow_rel (G : Array GenState) : Rel (jOf G) (shadow G) G := by
  refine ⟨by unfold shadow; rw [Array.size_map], fun i hi => ?_, fun i y hi => ?_⟩
  · unfold shadow
    rw [Array.getElem?_map]
    unfold jOf at hi
    split at hi
    · cases hi
    · rename_i hne
      cases e : G[i]? with
      | none => rfl
      | some x =>
        rw [Option.map_some, poi_other fun k l c p fs cl q => hne k l c p fs cl (by rw [e, q])]
  · unfold jOf at hi
    split at hi
    · rename_i k l c p fs cl e
      cases hi
      refine ⟨⟨_, _, _, _, _, _, rfl⟩, ?_, e⟩
      unfold shadow
      rw [Array.getElem?_map, e]
      rfl
    · cases hi
theorem shadow_ngt (G : Array GenState) : NGT (shadow G) := fun i k l c p fs cl h => by
  unfold shadow at h
  rw [Array.getElem?_map] at h
  obtain ⟨x, hx, e⟩ := Option.map_eq_some_iff.mp h
  cases x with
  | suspended k' l' c' p' fs' cl' =>
    injection e with e1 e2 e3 e4 e5 e6
    rw [← e5]
    exact split_poi _
  | fresh c => cases e
  | running => cases e
  | finished => cases e
theorem wpAny_swap {M : Model} {A : Around} {α : Type} {t : Sem α} {Q : α → Shared → Prop} {E : Value → Shared → Prop} {s : Shared} (h : wpAny M A t Q E { s with gens := shadow s.gens }) : wpAny M A t (Swp (jOf s.gens) Q) (Swp (jOf s.gens) E) s :=
  fun Γ p hΓ => wp_swap t _ _ p { s with gens := shadow s.gens } s.gens (shadow_ngt _) (shadow_rel _) (h Γ p hΓ)
end GSw
namespace DL
open PySem PySem.Spec PySem.W PyProof.Rows L2 GenW GSw
section
variable {X : Cx} {pins : List (Addr × Obj)} {σ : L2.St} {H : Hp} {s : Shared} {G : Array GenState}
theorem inv_gens (I : Inv X pins σ H s) (hG : AllBare G) : Inv X pins σ H { s with gens := G } := ⟨I.ok, I.os, hG, I.base, I.loc, I.cell, I.free, I.freeC, I.pin, I.hok, I.len⟩
theorem sp_gens {D : Ends} {f : Flow} (h : SP X pins D f s) (hG : AllBare G) : SP X pins D f { s with gens := G } := by
  cases f with
  | next => obtain ⟨σ, H, I, q⟩ := h; exact ⟨σ, H, inv_gens I hG, q⟩
  | brk => obtain ⟨σ, H, I, q⟩ := h; exact ⟨σ, H, inv_gens I hG, q⟩
  | cont => obtain ⟨σ, H, I, q⟩ := h; exact ⟨σ, H, inv_gens I hG, q⟩
  | ret u => obtain ⟨v, σ, H, I, r, q⟩ := h; exact ⟨v, σ, H, inv_gens I hG, r, q⟩
theorem sp_bare {D : Ends} {f : Flow} (h : SP X pins D f s) : AllBare s.gens := by
  cases f with
  | next => obtain ⟨σ, H, I, q⟩ := h; exact I.bare
  | brk => obtain ⟨σ, H, I, q⟩ := h; exact I.bare
  | cont => obtain ⟨σ, H, I, q⟩ := h; exact I.bare
  | ret u => obtain ⟨v, σ, H, I, r, q⟩ := h; exact I.bare
end
theorem bare_shadow {G : Array GenState} (h : AllBare G) : AllBare (shadow G) := fun y hy => by
  unfold shadow at hy
  obtain ⟨x, hx, rfl⟩ := Array.mem_map.mp hy
  rw [bare_poi]
  exact h x hx
theorem jof_bare {G : Array GenState} (h : AllBare G) : ∀ i y, jOf G i = some y → y.bare = true := fun i y e => by
  unfold jOf at e
  split at e
  · rename_i k l c p fs cl q
    cases e
    exact h _ (Array.mem_of_getElem? q)
  · cases e
theorem bare_rel {J : Nat → Option GenState} {S T : Array GenState} (r : Rel J S T) (hS : AllBare S) (hJ : ∀ i y, J i = some y → y.bare = true) : AllBare T := fun y hy => by
  obtain ⟨i, hi, e⟩ := Array.mem_iff_getElem.mp hy
  have e' : T[i]? = some y := by rw [Array.getElem?_eq_getElem hi, e]
  cases j : J i with
  | none => exact hS y (Array.mem_of_getElem? ((r.same i j).trans e'))
  | some z =>
    obtain ⟨_, _, h3⟩ := r.bad i z j
    rw [e'] at h3
    rw [Option.some.inj h3]
    exact hJ i z j
def XeG (X : Cx) : Prop := ∀ (J : Nat → Option GenState) (e : Value) (s' : Shared), (∀ i y, J i = some y → y.bare = true) → Swp J X.xe e s' → X.xe e s'
theorem cx_gens {P : Program} {w : World} {outer : List PySem.Env} {H : Hp} {s0 s : Shared} {E : XK} {e : Value} {G : Array GenState} (h : L2.CX P w outer H s0 E e s) (hG : AllBare G) : L2.CX P w outer H s0 E e { s with gens := G } := by
  obtain ⟨a, B, H', cls, d, z1, fl, z2, ub, z3, z4, z5, z6⟩ := h
  exact ⟨a, B, H', cls, d, z1, fl, z2, ub, z3, z4, hG, z6⟩
theorem cx_bare {P : Program} {w : World} {outer : List PySem.Env} {H : Hp} {s0 s : Shared} {E : XK} {e : Value} (h : L2.CX P w outer H s0 E e s) : AllBare s.gens := by
  obtain ⟨a, B, H', cls, d, z1, fl, z2, ub, z3, z4, z5, z6⟩ := h
  exact z5
theorem xeG_cx {P : Program} {w : World} {K : PySem.W.Frag} {mg : Str → Option Value} {base : Heap} {N : List Str} {qual : Str} {scope : Scope} {f : Addr} {cdv : Value} {A : Around} {outer : List PySem.Env} {s : Shared} {H : Hp} {E : XK} : XeG (cxOf (L2.CX P w) P w K mg base N qual scope f cdv A outer s H E) := fun J e s' hJ h => by
  obtain ⟨s1, n, r, e1, hx⟩ := h
  rw [e1]
  intro Γ p hΓ
  refine Sem.wp_mono _ Γ _ (fun a p1 s2 h2 => ?_) (fun a p1 s2 h2 => ?_) _ _ (wp_swap _ _ _ p s1 s'.gens n r (hx Γ p hΓ))
  · obtain ⟨s3, n3, r3, e3, h3⟩ := h2
    rw [e3]
    exact cx_gens h3 (bare_rel r3 (cx_bare h3) hJ)
  · obtain ⟨s3, n3, r3, e3, h3⟩ := h2
    rw [e3]
    exact cx_gens h3 (bare_rel r3 (cx_bare h3) hJ)
def tForG (te : TE) (g : TG) (tb : TS) : TS := fun D σ H => te σ H fun x H1 => ∃ b : Int, x = .int b ∧ ∃ (N : Nat) (f : Nat → Int), Chain b N f ∧ ∃ Pv : Nat → L2.St → Hp → Prop, Pv 0 σ H1 ∧
  (∀ i σ H, i ≤ N → Pv i σ H → g (.int (f i)) σ H fun σ2 H2 => tb { D with nx := Pv (i + 1), ct := Pv (i + 1), bk := D.nx } σ2 H2) ∧ ∀ σ H, Pv (N + 1) σ H → D.nx σ H
theorem ps_forG {X : Cx} {tg iter : Expr} {body : List Stmt} {pos : Pos} {te : TE} {g : TG} {tb : TS} (hp : PassesOwn (model X.prog X.w) X.A X.env X.xe) (hc : X.calm = true) (hx : XeG X) (hdp : X.A.depth < recursionLimit)
    (hi : ∀ (pins : List (Addr × Obj)) (s : Shared) (σ : L2.St) (H : Hp) (Q : Int → Hp → Prop), Inv X pins σ H s → te σ H (fun x H1 => ∃ b : Int, x = .int b ∧ Q b H1) →
      wpAny (model X.prog X.w) X.A (eval iter X.env) (fun u s' => ∃ (s1 : Shared) (H1 : Hp) (b : Int), Inv X pins σ H1 s1 ∧ PMade b s1 u s' ∧ Q b H1) X.xe s)
    (hg : PG X tg g) (hb : PSs X body tb) (hs : ∀ x, foldedSetIterable iter X.env x = pure x) (hlt : ∀ a v, letOwnedTupleGo tg (.ref a) v = pure ()) : PS X (.For tg iter body [] pos) (tForG te g tb) := by
  refine ⟨fun pins s σ H D I h => ?_⟩
  refine wpAny_For (thn (hi pins s σ H _ I h) fun u s2 ⟨s1, H1, b, I1, made, N, f, C, Pv, h0, hstep, hend⟩ => ?_) hs
  obtain ⟨env, stb, h', tk, a, rfl, es2, hst, E, ha, hLge, haL, hah, hLlt, hkp, hgen, mB, tB, hnB, hmB⟩ := made.ex
  have hgen2 : s2.heap.IsGen a s1.gens.size := by rw [es2]; exact hgen
  refine wpAny_pyIter_gen hgen2 ?_
  have I2 : Inv X pins σ H1 s2 := by
    rw [es2]
    exact I1.call' (ch := []) rfl (Un.kept hkp) (I1.hok.kept hkp) (AllBare.push I1.bare rfl) (fun b z => by simp at z)
  have hgs2 : s2.gens[s1.gens.size]? = some (.fresh (.func stb env)) := by
    rw [es2]
    exact Array.getElem?_push_size ..
  have hh2 : s2.heap = h' := by rw [es2]
  rw [← hh2] at hnB
  generalize hgg : s1.gens.size = g0 at hgen2 hgs2
  have fL : FpOk X pins H1 env.locals := I1.fpOk hLge (I1.hok.fresh hLge)
  have fa : FpOk X pins H1 a := I1.fpOk ha (I1.hok.fresh ha)
  have hh : X.A.handled = none := I.ok.hd hc
  refine codeAny_forLoop_any (fun n s' => ∃ (i : Nat) (gs : GenState) (σ' : L2.St) (H' : Hp), i ≤ N + 1 ∧ n = N + 1 - i ∧ Inv X pins σ' H' s' ∧ H' env.locals = none ∧ H' a = none ∧
    s'.heap.IsGen a g0 ∧ s'.gens[g0]? = some gs ∧ gs.Goes (model X.prog X.w) X.A.in1 (pEnd env.locals) (pProto env.locals N f) n (.send .none) (s'.setGen g0 .running) ∧ Pv i σ' H') ?_ (N + 1)
    ⟨0, _, σ, H1, Nat.zero_le _, rfl, I2, fL.1, fa.1, hgen2, hgs2, ⟨rfl, seg_isParts hst E C _ _ mB tB hnB hmB (GenSince.refl _ _ _)⟩, h0⟩
  rintro n s3 ⟨i, gs, σ3, H3, hi3, hn3, I3, hL3, ha3, hg3, hgs3, hgo3, hp3⟩
  have turnI : ∀ (h6 : Heap) (G : Array GenState) (tk6 : Nat), (∀ c o, c ≠ env.locals → s3.heap.get? c = some o → h6.get? c = some o) → AllBare G → Inv X pins σ3 H3 { s3 with heap := h6, gens := G, toks := tk6 } := fun h6 G tk6 k hG =>
    inv_turnG (it := env.locals) I3 k hL3 fL.2.1 fL.2.2.2.1 fL.2.2.2.2.1 fL.2.2.2.2.2 hG
  refine wpAny_passesOwn hp (next_genG (A := X.A) (g := g0) (n := n) (gs := gs) (F := pFin env.locals) (Er := fun _ _ => False) (Y := pProto env.locals N f) hh I3.nolimit hdp hg3 hgs3 hgo3 (fun v s6 gs' hbare hv => ?_) (fun s6 hfin h7 hk7 => ?_) (fun e s6 he => he.elim))
  · obtain ⟨⟨tv, rfl⟩, ⟨oL, hoL, hdL⟩, ⟨h6, tk6, rfl, hk6⟩, hkap⟩ := hv
    cases n with
    | zero => exact (hkap .none _ (.inl rfl) fun o e => e).elim
    | succ m =>
      have hjm : N - m = i := by omega
      rw [setGen_two hgs3]
      have hfe : N - (m + 1 - 1) = i := by omega
      have I6 := turnI h6 (s3.gens.setIfInBounds g0 gs') tk6 (fun c o hc e => hk6 c o hc (by simp) e) (bare_set I3.bare hbare)
      have hsz : g0 < s3.gens.size := (Array.getElem?_eq_some_iff.mp hgs3).1
      obtain ⟨oa, nm, qn, hoa, hca, hda, hsa⟩ := id hg3
      have hoa6 : h6.get? a = some oa := hk6 a oa haL (by simp) hoa
      have hsus : ∃ k l c p fs cl, gs' = GenState.suspended k l c p fs cl := by
        have hgo := hkap (.bool true) ({ s3 with heap := h6, toks := tk6, gens := s3.gens.setIfInBounds g0 gs' } : Shared) (.inr rfl) fun o e => e
        cases gs' with
        | suspended k l c p fs cl => exact ⟨k, l, c, p, fs, cl, rfl⟩
        | fresh c => exact absurd hgo.1 (by intro q; injection q with q; cases q)
        | running => exact hgo.elim
        | finished => exact hgo.elim
      have jgs : ∀ {T : Array GenState}, T[g0]? = some gs' → jOf T g0 = some gs' := fun {T} e => by
        obtain ⟨k, l, c, p, fs, cl, rfl⟩ := hsus
        unfold jOf
        rw [e]
      refine wpAny_of_eq (hlt a _) ?_
      have hfp : ∀ c ∈ [env.locals, a], FpOk X pins H3 c := fun c hc => by
        rcases List.mem_cons.mp hc with rfl | hc
        · exact ⟨hL3, fL.2⟩
        · rw [List.mem_singleton.mp hc]
          exact ⟨ha3, fa.2⟩
      have I6' := I6.pinned hfp fun c hc => by
        rcases List.mem_cons.mp hc with rfl | hc
        · exact ⟨oL, hoL, hdL⟩
        · rw [List.mem_singleton.mp hc]
          exact ⟨oa, hoa6, fun v q => by rw [hda] at q; cases q⟩
      generalize hpe : pins ++ pinsAt [env.locals, a] ({ s3 with heap := h6, gens := s3.gens.setIfInBounds g0 gs', toks := tk6 } : Shared).heap = pins' at I6'
      have hun : ∀ {σ' : L2.St} {H' : Hp} {s' : Shared}, Inv X pins' σ' H' s' → Inv X pins σ' H' s' := fun {σ' H' s'} I' => by
        rw [← hpe] at I'
        exact I'.unpinned
      have hpin : ∀ {σ' : L2.St} {H' : Hp} {s' : Shared}, Inv X pins' σ' H' s' → (s'.heap.get? env.locals = some oL ∧ H' env.locals = none) ∧ (s'.heap.get? a = some oa ∧ H' a = none) := fun {σ' H' s'} I' => by
        rw [← hpe] at I'
        have p1 := I'.pin (env.locals, oL) (List.mem_append_right _ (List.mem_append_right _ (mem_pinsAt (by simp) hoL)))
        have p2 := I'.pin (a, oa) (List.mem_append_right _ (List.mem_append_right _ (mem_pinsAt (by simp) hoa6)))
        exact ⟨⟨p1.1, p1.2.1⟩, p2.1, p2.2.1⟩
      have hg6 : (s3.gens.setIfInBounds g0 gs')[g0]? = some gs' := by simp [hsz]
      have hA := wpAny_swap (s := { s3 with heap := h6, gens := s3.gens.setIfInBounds g0 gs', toks := tk6 }) (hg.run _ { s3 with heap := h6, gens := shadow (s3.gens.setIfInBounds g0 gs'), toks := tk6 } σ3 H3 (.int (f i)) (.int (f (N - (m + 1 - 1))) tv) _ (inv_gens I6' (bare_shadow I6.bare)) ⟨tv, by rw [hfe]⟩ (hstep i σ3 H3 (by omega) hp3))
      refine wpAny_passesOwn hp (wpAny_mono hA (fun _ s7 h7 => ?_) fun e s7 h7 => hx _ e s7 (jof_bare I6.bare) h7)
      obtain ⟨s7', n7, r7, e7, σ7, H7, I7, q7⟩ := h7
      have b7 : AllBare s7.gens := bare_rel r7 I7.bare (jof_bare I6.bare)
      have I7r : Inv X pins' σ7 H7 s7 := by
        rw [e7]
        exact inv_gens I7 b7
      have g7 : s7.gens[g0]? = some gs' := (r7.bad g0 gs' (jgs hg6)).2.2
      have hB := wpAny_swap (s := s7) (hb.run _ { s7 with gens := shadow s7.gens } σ7 H7 _ (inv_gens I7r (bare_shadow b7)) q7)
      refine wpAny_passesOwn hp (wpAny_mono hB (fun fl s8 h8 => ?_) fun e s8 h8 => hx _ e s8 (jof_bare b7) h8)
      obtain ⟨s8', n8, r8, e8, q8⟩ := h8
      have b8 : AllBare s8.gens := bare_rel r8 (sp_bare q8) (jof_bare b7)
      have q8r := sp_gens q8 b8
      rw [← e8] at q8r
      have g8 : s8.gens[g0]? = some gs' := (r8.bad g0 gs' (jgs g7)).2.2
      have again : ∀ {σ8 : L2.St} {H8 : Hp}, Inv X pins' σ8 H8 s8 → Pv (i + 1) σ8 H8 → ∃ m', m' < m + 1 ∧ ∃ (i : Nat) (gs : GenState) (σ' : L2.St) (H' : Hp), i ≤ N + 1 ∧ m' = N + 1 - i ∧ Inv X pins σ' H' s8 ∧ H' env.locals = none ∧ H' a = none ∧
          s8.heap.IsGen a g0 ∧ s8.gens[g0]? = some gs ∧ gs.Goes (model X.prog X.w) X.A.in1 (pEnd env.locals) (pProto env.locals N f) m' (.send .none) (s8.setGen g0 .running) ∧ Pv i σ' H' := fun {σ8 H8} I8 n8 => by
        obtain ⟨⟨p1, p2⟩, p3, p4⟩ := hpin I8
        refine ⟨m, Nat.lt_succ_self m, i + 1, gs', σ8, H8, by omega, by omega, hun I8, p2, p4, ⟨oa, nm, qn, p3, hca, hda, hsa⟩, g8, ?_, n8⟩
        refine hkap .none (s8.setGen g0 .running) (.inl rfl) fun o e => ?_
        have e : h6.get? env.locals = some o := e
        rw [hoL] at e
        cases e
        exact p1
      cases fl with
      | next => obtain ⟨σ8, H8, I8, n8⟩ := q8r; exact again I8 n8
      | cont => obtain ⟨σ8, H8, I8, n8⟩ := q8r; exact again I8 n8
      | brk => obtain ⟨σ8, H8, I8, n8⟩ := q8r; exact ⟨σ8, H8, hun I8, n8⟩
      | ret v => obtain ⟨x8, σ8, H8, I8, rr8, n8⟩ := q8r; exact ⟨x8, σ8, H8, hun I8, rr8, n8⟩
  · obtain ⟨hn0, h6, tk6, rfl, hk6⟩ := hfin
    have hiN : i = N + 1 := by omega
    subst hiN
    have I6 := turnI h7 (s3.gens.setIfInBounds g0 .finished) tk6 (fun c o hc e => hk7 c o (hk6 c o hc (by simp) e)) (bare_set I3.bare rfl)
    have es6 : ({ ({ s3.setGen g0 .running with heap := h6, toks := tk6 } : Shared).setGen g0 .finished with heap := h7 } : Shared) = { s3 with heap := h7, gens := s3.gens.setIfInBounds g0 .finished, toks := tk6 } := by
      rw [setGen_two hgs3]
    rw [es6]
    exact wpAny_execs_nil ⟨σ3, H3, I6, hend σ3 H3 hp3⟩
end DL
namespace DL
open PySem PySem.Spec PySem.W PyProof.Rows L2 GenW GSw
def gPartsL : D → Option (List D)
  | .a (.int b) => (partsO b 300 0).map fun l => l.map D.int
  | _ => none
def dPartsI (fa : Env → Out D) : Env → Out (List D) := fun ρ => match fa ρ with
  | .ok d ρ1 => (match gPartsL d with
    | some ds => .ok ds ρ1
    | none => .st)
  | .ex e ρ1 => .ex e ρ1
  | .st => .st
theorem ev_parts {X : Cx} {x qual : Str} {pc pos1 : Pos} {e : Expr} {te : TE} {sc : Scope} {f : Addr} {params : Arguments} {stb : List Stmt} {k : Nat} (he : PE X e te)
    (F : ∃ fd, FunD X.K x qual params stb sc [] [] f fd) (hst : IsParts stb) (hk : sc.kind = .function) (hco : sc.isCoroutine = false) (hge : sc.isGenerator = true) (hbl : sc.names.lookup ("bits" : Str) = some NameKind.local) (hpl : sc.names.lookup ("part" : Str) = some NameKind.local)
    (hia : ∀ (L : Addr) (cd : Value), interactive (envOfC qual sc L f cd) = false)
    (hbi : ∀ (kV doc pm : Value) (an : Option Addr) (cdv ct : Value) (us : List Value), us.length = [("bits" : Str)].length → bindArgs (PySem.W.fnOf x qual params stb sc .none kV doc pm an cdv ct) ⟨us, []⟩ = pure ([("bits" : Str)].zip us))
    (hr : Room k X.A) (hg : Gl X x) (hm : X.mg x = some (.ref f) ∧ PySem.W.keepIn X.K (.ref f) = true) (hdbx : (x == ("__debug__" : Str)) = false)
    (hea : starEach [e] X.env = (false, eval e X.env) :: starEach [] X.env) (hpla : (backTo pos1 (starEach [] X.env)).any (·.1) = false)
    (pins : List (Addr × Obj)) (s : Shared) (σ : L2.St) (H : Hp) (Q : Int → Hp → Prop) (I : Inv X pins σ H s) (h : te σ H (fun x H1 => ∃ b : Int, x = .int b ∧ Q b H1)) :
    wpAny (model X.prog X.w) X.A (eval (.Call (.Name x pc) [e] [] pos1) X.env) (fun u s' => ∃ (s1 : Shared) (H1 : Hp) (b : Int), Inv X pins σ H1 s1 ∧ PMade b s1 u s' ∧ Q b H1) X.xe s := by
  obtain ⟨fd, F⟩ := F
  have hb := F.bindsN hbi
  have h' : (tCons te tNil) σ H (oneP (fun x H1 (_ : VK) => ∃ b : Int, x = .int b ∧ Q b H1) fun _ _ => True) := h
  refine wpAny_Call_Name_kw (ld_glob I hg hm.1 ?_ hdbx)
  refine PySem.W.callWith_K (h₀ := X.base) I.ok.mod.kin hm.2 (thn ((pa_cons he pa_nil hea).run pos1 pins s σ H _ I h') fun us s1 ⟨vs, H1, I1, r, q⟩ => ⟨I1.kIn, ?_⟩) hea hpla
  match vs, r, q with
  | [y], r, q =>
    obtain ⟨b, rfl, hQ⟩ := q
    cases r with
    | cons r0 r1 =>
      cases r1
      obtain ⟨t, rfl⟩ := r0
      exact call_parts F hst hk hco hge hbl hpl hia hb hr.depth I1 fun u s' made => ⟨s1, H1, b, I1, made, hQ⟩
theorem ds_forG {X : Cx} {cA : Str → Addr} {W : WX} {kk : Option Nat} {fa : Env → Out D} {ts : List Nat} {g : D → Env → Option Env} {b : Env → Fl} {tg : Expr} {body : List Stmt} {x qual : Str} {pc pos pos1 : Pos} {e : Expr} {sc : Scope} {f : Addr} {params : Arguments} {stb : List Stmt} {k : Nat}
    (hp : PassesOwn (model X.prog X.w) X.A X.env X.xe) (hc : X.calm = true) (hx : XeG X) (ha : DE X cA W fa e)
    (F : ∃ fd, FunD X.K x qual params stb sc [] [] f fd) (hst : IsParts stb) (hk : sc.kind = .function) (hco : sc.isCoroutine = false) (hge : sc.isGenerator = true) (hbl : sc.names.lookup ("bits" : Str) = some NameKind.local) (hpl : sc.names.lookup ("part" : Str) = some NameKind.local)
    (hia : ∀ (L : Addr) (cd : Value), interactive (envOfC qual sc L f cd) = false)
    (hbi : ∀ (kV doc pm : Value) (an : Option Addr) (cdv ct : Value) (us : List Value), us.length = [("bits" : Str)].length → bindArgs (PySem.W.fnOf x qual params stb sc .none kV doc pm an cdv ct) ⟨us, []⟩ = pure ([("bits" : Str)].zip us))
    (hr : Room k X.A) (hgl : Gl X x) (hm : X.mg x = some (.ref f) ∧ PySem.W.keepIn X.K (.ref f) = true)
    (hg : DG X cA ts g tg) (hb : DSs X cA W kk b body) (hkt : ∀ i, kk = some i → i ∉ ts) (hlt : ∀ a v, letOwnedTupleGo tg (.ref a) v = pure () := by intro _ _; rfl) (hs : ∀ y, foldedSetIterable (.Call (.Name x pc) [e] [] pos1) X.env y = pure y := by intro _; kernel_rfl) (hdbx : (x == ("__debug__" : Str)) = false := by kernel_rfl)
    (hea : starEach [e] X.env = (false, eval e X.env) :: starEach [] X.env := by kernel_rfl) (hpla : (backTo pos1 (starEach [] X.env)).any (·.1) = false := by kernel_rfl) :
    DS X cA W kk (dFor (dPartsI fa) g b) (.For tg (.Call (.Name x pc) [e] [] pos1) body [] pos) := ds_of (ps_forG hp hc hx hr.depth (ev_parts ha F hst hk hco hge hbl hpl hia hbi hr hgl hm hdbx hea hpla) hg hb hs hlt) fun T σ H Z L ρ r w p => by
  refine ⟨Z, L, ρ, r, w, ?_⟩
  unfold dFor dPartsI at p
  cases hfa : fa ρ with
  | st => rw [hfa] at p; exact p
  | ex e ρ1 => rw [hfa] at p; exact post_es p
  | ok d1 ρ1 =>
    rw [hfa] at p
    dsimp only at p
    intro v1 H1 Z1 L1 f1 r1 w1 h1 F1
    cases hgp : gPartsL d1 with
    | none => rw [hgp] at p; exact p.elim
    | some ds =>
      rw [hgp] at p
      dsimp only at p
      unfold gPartsL at hgp
      split at hgp
      · rename_i bb
        obtain ⟨l, hl, rfl⟩ := Option.map_eq_some_iff.mp hgp
        obtain ⟨N, fn, h0, hstp, hne, hen, hN, rfl⟩ := chain_of hl
        obtain ⟨e1, e2⟩ := h1
        subst e1 e2
        refine ⟨bb, rfl, N, fn, ⟨h0, hstp, hne, hen⟩, fun i σi Hi => ∃ Zi Li ρi, RelL X.K cA Hi Zi ρi σi Li ∧ Wf Hi Zi Li ∧ Fr H1 Z1 L1 Hi Zi Li ∧ Pin kk σ σi ∧ PostS X.K cA W kk σ H Z L T (forL g b ((((List.range (N + 1)).map fn).map D.int).drop i) ρi), ⟨Z1, L1, ρ1, r1, w1, Fr.refl, Pin.refl, p⟩, ?_, ?_⟩
        · rintro i σi Hi hi ⟨Zi, Li, ρi, ri, wi, Fi, pi, qi⟩
          have hd : (((List.range (N + 1)).map fn).map D.int)[i]? = some (.a (.int (fn i))) := by
            rw [List.getElem?_map, List.getElem?_map, List.getElem?_range (by omega)]
            rfl
          rw [drop_cons' hd] at qi
          unfold forL at qi
          cases hgd : g (.a (.int (fn i))) ρi with
          | none => rw [hgd] at qi; exact qi.elim
          | some ρa =>
            rw [hgd] at qi
            refine ⟨.a (.int (fn i)), Zi, Li, ρi, ρa, ri, wi, ⟨rfl, rfl⟩, hgd, fun σa Ha Za La ra wa Fa ba => ?_⟩
            have FA : Fr H1 Z1 L1 Ha Za La := Fi.trans Fa
            have pA : Pin kk σ σa := pi.trans (ba.pin hkt)
            refine ⟨Za, La, ρa, ra, wa, ?_⟩
            dsimp only at qi
            cases hbo : b ρa with
            | st => rw [hbo] at qi; exact qi
            | nx ρ2 => rw [hbo] at qi; exact fun σ' H' Z' L' a1 a2 a3 a4 => ⟨Z', L', ρ2, a1, a2, FA.trans a3, pA.trans a4, qi⟩
            | ct ρ2 => rw [hbo] at qi; exact fun σ' H' Z' L' a1 a2 a3 a4 => ⟨Z', L', ρ2, a1, a2, FA.trans a3, pA.trans a4, qi⟩
            | bk ρ2 => rw [hbo] at qi; exact fun σ' H' Z' L' a1 a2 a3 a4 => qi σ' H' Z' L' a1 a2 ((F1.trans FA).trans a3) (pA.trans a4)
            | rt d ρ2 => rw [hbo] at qi; exact fun v σ' H' Z' L' fp a1 a2 a3 a4 a5 => qi v σ' H' Z' L' fp a1 a2 a3 ((F1.trans FA).trans a4) (pA.trans a5)
            | ex e ρ2 => rw [hbo] at qi; exact fun cls d σ' H' Z' L' a1 a2 a3 a4 a5 => qi cls d σ' H' Z' L' a1 a2 a3 ((F1.trans FA).trans a4) (pA.trans a5)
        · rintro σi Hi ⟨Zi, Li, ρi, ri, wi, Fi, pi, qi⟩
          rw [List.drop_eq_nil_of_le (by simp)] at qi
          exact qi σi Hi Zi Li ri wi (F1.trans Fi) pi
      · cases hgp
end DL
namespace DC
open PySem L2 DL
def B_count : DL.Env → Fl :=
  (dBind (dU gLen (dCall 1 F_members (dACons (dVar 0) dANil))) fun d ρ => .rt d ρ)
def F_count : List D → FR := fnD 1 none B_count
def B_lower_sets : DL.Env → Fl :=
  (dSeq (dBind (dOp2 gSub (dOp2 gShl (dC (.int 1)) (dMeth "Order" "size" 0 F_Order_size (dVar 0) dANil)) (dC (.int 1))) (stSet 1))
  (dSeq (dBind (dMeth "Order" "below" 0 F_Order_below (dVar 0) dANil) (stSet 2))
  (dSeq (dBind (dLst dANil) (stSet 3))
  (dSeq (dFrz 3 (dFor (dPartsI (dVar 1)) (tg1 4) (dIf (dB (dU gAll (dLc [6] (dIter (dCall 1 F_members (dACons (dVar 4) dANil))) (tg1 6) dYes (dOp2 gEq (dOp2 gAnd (dOp2 gIx (dVar 2) (dVar 6)) (dVar 4)) (dOp2 gIx (dVar 2) (dVar 6)))))) (dHas 3 (dBind (dTup (dACons (dCall 1 F_count (dACons (dVar 4) dANil)) (dACons (dVar 4) dANil))) (stApp 3))) dNext)))
  (dBind (dU gTuple (dLc [5, 4] (dIter (dFz (dU gSortU (dVar 3)))) (tgT [5, 4]) dYes (dVar 4))) fun d ρ => .rt d ρ)))))
def F_lower_sets : List D → FR := fnD 7 none B_lower_sets
def B_law_maps : DL.Env → Fl :=
  (dSeq (dBind (dMeth "Order" "size" 0 F_Order_size (dVar 0) dANil) (stSet 2))
  (dSeq (dBind (dFz (dLst (dACons (dTup dANil) dANil))) (stSet 3))
  (dSeq (dFor (dRng1 (dVar 2)) (tg1 4) (dSeq (dBind (dLst dANil) (stSet 5))
  (dSeq (dFrz 5 (dFor (dIter (dFz (dU gList (dVar 3)))) (tg1 6) (dFor (dRng2 (dC (.int 1)) (dOp2 gAdd (dVar 1) (dC (.int 1)))) (tg1 7) (dHas 5 (dBind (dOp2 gAdd (dVar 6) (dTup (dACons (dVar 7) dANil))) (stApp 5))))))
  (dBind (dVar 5) (stSet 3)))))
  (dBind (dVar 3) fun d ρ => .rt d ρ))))
def F_law_maps : List D → FR := fnD 8 none B_law_maps
def B_law_counts : DL.Env → Fl :=
  (dSeq (dBind (dC (.int 0)) (stSet 2))
  (dSeq (dBind (dC (.int 0)) (stSet 3))
  (dSeq (dBind (dC (.int 0)) (stSet 4))
  (dSeq (dBind (dMeth "Order" "pairs" 0 F_Order_pairs (dVar 0) dANil) (stSet 5))
  (dSeq (dFor (dIter (dCall 2 F_law_maps (dACons (dVar 0) (dACons (dVar 1) dANil)))) (tg1 6) (dIf (dB (dOp2 gEq (dU gLen (dLc [7] (dIter (dVar 5)) (tg1 7) (dB (dOp2 gGt (dOp2 gIx (dVar 6) (dOp2 gIx (dVar 7) (dC (.int 0)))) (dOp2 gIx (dVar 6) (dOp2 gIx (dVar 7) (dC (.int 1)))))) (dVar 7))) (dC (.int 0)))) (dSeq (dBind (dOp2 gAdd (dVar 2) (dC (.int 1))) (stSet 2))
  (dSeq (dIf (dB (dOp2 gEq (dU gLen (dLc [8] (dRng2 (dC (.int 1)) (dOp2 gAdd (dVar 1) (dC (.int 1)))) (tg1 8) (dB (dOp2 gNotIn (dVar 8) (dVar 6))) (dVar 8))) (dC (.int 0)))) (dBind (dOp2 gAdd (dVar 4) (dC (.int 1))) (stSet 4)) dNext)
  (dIf (dB (dOp2 gEq (dU gLen (dLc [7] (dIter (dVar 5)) (tg1 7) (dB (dOp2 gEq (dOp2 gIx (dVar 6) (dOp2 gIx (dVar 7) (dC (.int 0)))) (dOp2 gIx (dVar 6) (dOp2 gIx (dVar 7) (dC (.int 1)))))) (dVar 7))) (dC (.int 0)))) (dBind (dOp2 gAdd (dVar 3) (dC (.int 1))) (stSet 3)) dNext))) dNext))
  (dBind (dTup (dACons (dVar 2) (dACons (dVar 3) (dACons (dVar 4) dANil)))) fun d ρ => .rt d ρ))))))
def F_law_counts : List D → FR := fnD 9 none B_law_counts
def B_steps_between : DL.Env → Fl :=
  (dSeq (dBind (dCall 1 F_lower_sets (dACons (dVar 0) dANil)) (stSet 2))
  (dSeq (dBind (dLst dANil) (stSet 3))
  (dSeq (dFrz 3 (dFor (dIter (dVar 2)) (tg1 4) (dSeq (dBind (dLst dANil) (stSet 5))
  (dSeq (dFrz 5 (dFor (dRng1 (dU gLen (dVar 2))) (tg1 6) (dIf (dAndT (dB (dOp2 gNe (dOp2 gIx (dVar 2) (dVar 6)) (dVar 4))) (dB (dOp2 gEq (dOp2 gAnd (dVar 4) (dU gInv (dOp2 gIx (dVar 2) (dVar 6)))) (dC (.int 0))))) (dIf (dOrT (dNotT (dB (dVar 1))) (dB (dMeth "Order" "is_antichain" 1 F_Order_is_antichain (dVar 0) (dACons (dOp2 gAnd (dOp2 gIx (dVar 2) (dVar 6)) (dU gInv (dVar 4))) dANil)))) (dHas 5 (dBind (dVar 6) (stApp 5))) dNext) dNext)))
  (dHas 3 (dBind (dVar 5) (stApp 3)))))))
  (dBind (dVar 3) fun d ρ => .rt d ρ))))
def F_steps_between : List D → FR := fnD 7 none B_steps_between
def B_onto_counts : DL.Env → Fl :=
  (dSeq (dBind (dFz (dCall 2 F_steps_between (dACons (dVar 0) (dACons (dVar 1) dANil)))) (stSet 2))
  (dSeq (dFrz 3 (dBind (dLc [7] (dRng1 (dU gLen (dVar 2))) (tg1 7) dYes (dU gInt (dOp2 gEq (dVar 7) (dC (.int 0))))) (stSet 3)))
  (dSeq (dBind (dLst dANil) (stSet 4))
  (dSeq (dFrz 4 (dFor (dRng1 (dOp2 gAdd (dMeth "Order" "size" 0 F_Order_size (dVar 0) dANil) (dC (.int 1)))) (tg1 5) (dSeq (dHas 4 (dBind (dOp2 gIx (dVar 3) (dU gNeg (dC (.int 1)))) (stApp 4)))
  (dSeq (dBind (dLc [5] (dIter (dVar 2)) (tg1 5) dYes (dC (.int 0))) (stSet 6))
  (dSeq (dFrz 6 (dFor (dRng1 (dU gLen (dVar 2))) (tg1 7) (dFor (dIter (dOp2 gIx (dVar 2) (dVar 7))) (tg1 8) (dBind (dOp2 gAdd (dIxV 6 (dVar 8)) (dOp2 gIx (dVar 3) (dVar 7))) (stSub 6 (dVar 8))))))
  (dBind (dVar 6) (stSet 3)))))))
  (dBind (dCall 1 F_trimmed (dACons (dVar 4) dANil)) fun d ρ => .rt d ρ)))))
def F_onto_counts : List D → FR := fnD 9 none B_onto_counts
def B_order_polynomial : DL.Env → Fl :=
  (dBind (dCall 2 F_onto_counts (dACons (dVar 0) (dACons (dC (.bl false)) dANil))) fun d ρ => .rt d ρ)
def F_order_polynomial : List D → FR := fnD 1 none B_order_polynomial
def B_strict_polynomial : DL.Env → Fl :=
  (dBind (dCall 2 F_onto_counts (dACons (dVar 0) (dACons (dC (.bl true)) dANil))) fun d ρ => .rt d ρ)
def F_strict_polynomial : List D → FR := fnD 1 none B_strict_polynomial
end DC
namespace DC
open PySem L2 DL
theorem has_eq (m x : Nat) : F_has [.int m, .int x] = .rt (.bl (m.testBit x)) none := by
  apply wf_eq
  unfold F_has
  rw [wf_fn]
  unfold B_has
  simp [ioOf]
  rw [PyProof.Rows.bitAnd_m1, Nat.testBit_eq_decide_div_mod_eq]
  congr 1
  have : ((m : Int) / 2 ^ x) = ((m / 2 ^ x : Nat) : Int) := by simp
  rw [this]
  simp only [eq_iff_iff]
  omega
theorem mulOk_of {a b : Int} {m n : Nat} (ha : Builtin.Int.intBits a ≤ m) (hb : Builtin.Int.intBits b ≤ n) (h : m + n ≤ 134217728) : mulOk a b = true := by
  unfold mulOk
  rw [decide_eq_true_eq]
  omega
theorem bits31 {t : Int} (h0 : 0 ≤ t) (h : t < 2147483647) : Builtin.Int.intBits t ≤ 31 := PySem.intBits_le_iff.mpr (by omega)
theorem bits_c {t : Int} {n : Nat} (h : t.natAbs < 2 ^ n) : Builtin.Int.intBits t ≤ n := PySem.intBits_le_iff.mpr h
theorem divOk_small {i j : Int} (h : 0 < j) (h2 : j < 1073741824) : divOk i j = true := by
  unfold divOk
  simp [h, h2]
@[irreducible] def bb (i : Nat) : Nat := 1048576 + 22 * i
def natD (n : Nat) : D := .a (.int (n : Int))
@[simp] theorem isF_natD {n : Nat} : isF (natD n) = true := rfl
@[simp] theorem frz_natD {n : Nat} : frz (natD n) = natD n := rfl
theorem intL_nat (n : Nat) : intL 0 n = (List.range n).map natD := by
  unfold intL natD
  apply List.map_congr_left
  intro a _
  simp
theorem seqIx_nat {v : Int} {n : Nat} (h0 : 0 ≤ v) (h : v < n) : seqIndex? v n = some v.toNat := by
  unfold seqIndex?
  have : ¬ v < 0 := by omega
  simp [this, h0, h]
end DC
namespace DC
open PySem L2 DL
@[simp] theorem frzL_nat {l : List Nat} : frzL (l.map natD) = l.map natD := frzL_map fun _ => rfl
@[simp] theorem isFL_nat {l : List Nat} : isFL (l.map natD) = true := isFL_map fun _ => rfl
theorem map_erase {α β : Type} (f : α → β) : ∀ (l : List α) (i : Nat), (l.map f).eraseIdx i = (l.eraseIdx i).map f
  | [], _ => rfl
  | _ :: _, 0 => rfl
  | x :: l, i + 1 => by simp [map_erase f l i]
theorem perm_erase {α : Type} : ∀ (l : List α) (i : Nat) (h : i < l.length), (l[i] :: l.eraseIdx i).Perm l
  | [], _, h => by simp at h
  | x :: l, 0, _ => by simp
  | x :: l, i + 1, h => by
    have h' : i < l.length := by simpa using h
    have := perm_erase l i h'
    simp only [List.getElem_cons_succ, List.eraseIdx_cons_succ]
    exact (List.Perm.swap x _ _).trans (this.cons x)
end DC
namespace DC
open PySem L2 DL
theorem intL_get {lo : Int} {m k : Nat} {d : D} (h : (intL lo m)[k]? = some d) : d = .a (.int (lo + k)) ∧ k < m := by
  unfold intL at h
  rw [List.getElem?_map] at h
  cases e : (List.range m)[k]? with
  | none => rw [e] at h; cases h
  | some x =>
    rw [e] at h
    cases h
    have h2 := List.getElem?_eq_some_iff.mp e
    obtain ⟨h3, h4⟩ := h2
    simp at h3 h4
    subst h4
    exact ⟨rfl, h3⟩
theorem natD_get {l : List Nat} {k : Nat} {d : D} (h : (l.map natD)[k]? = some d) : ∃ x, l[k]? = some x ∧ d = natD x := by
  rw [List.getElem?_map] at h
  cases e : l[k]? with
  | none => rw [e] at h; cases h
  | some x => rw [e] at h; cases h; exact ⟨x, rfl, rfl⟩
def prD (p : Nat × Nat) : D := .n .tup false [natD p.1, natD p.2]
@[simp] theorem isF_prD {p : Nat × Nat} : isF (prD p) = true := rfl
@[simp] theorem frz_prD {p : Nat × Nat} : frz (prD p) = prD p := rfl
@[simp] theorem frzL_pr {l : List (Nat × Nat)} : frzL (l.map prD) = l.map prD := frzL_map fun _ => rfl
@[simp] theorem isFL_pr {l : List (Nat × Nat)} : isFL (l.map prD) = true := isFL_map fun _ => rfl
def PsOk (n : Nat) (r : Nat → Nat) (ps : List (Nat × Nat)) : Prop := ∀ p ∈ ps, p.1 < n ∧ p.2 < n ∧ r p.1 < r p.2
def Acyc (n : Nat) (ps : List (Nat × Nat)) : Prop := ∃ r : Nat → Nat, PsOk n r ps
theorem idxOf_get {l : List Nat} (nd : l.Nodup) (i : Nat) (h : i < l.length) : l.idxOf l[i] = i := by
  induction l generalizing i with
  | nil => simp at h
  | cons x l ih =>
    have n1 := List.nodup_cons.mp nd
    cases i with
    | zero => simp
    | succ i =>
      have h' : i < l.length := by simpa using h
      have hne : l[i] ≠ x := fun e => n1.1 (e ▸ List.getElem_mem h')
      have hb : (x == l[i]) = false := by simpa using fun e => hne e.symm
      rw [List.getElem_cons_succ, List.idxOf_cons, hb]
      show (if false = true then 0 else _) = _
      simp [ih n1.2 i h']
end DC
namespace DC
open PySem L2 DL
def vec (n : Nat) (f : Nat → D) : List D := (List.range n).map f
@[simp] theorem vec_len {n : Nat} {f : Nat → D} : (vec n f).length = n := by simp [vec]
theorem vec_get {n i : Nat} {f : Nat → D} (h : i < n) : (vec n f)[i]? = some (f i) := by simp [vec, h]
theorem vec_get' {n i : Nat} {f : Nat → D} {d : D} (h : (vec n f)[i]? = some d) : i < n ∧ d = f i := by
  have hi := (List.getElem?_eq_some_iff.mp h).1
  rw [vec_len] at hi
  rw [vec_get hi] at h
  cases h
  exact ⟨hi, rfl⟩
theorem vec_ext {n : Nat} {f g : Nat → D} (h : ∀ i, i < n → f i = g i) : vec n f = vec n g := List.map_congr_left fun i hi => h i (by simpa using hi)
theorem vec_set {n i : Nat} {f : Nat → D} {d : D} : (vec n f).set i d = vec n (fun j => if j = i then d else f j) := by
  apply List.ext_getElem?
  intro j
  by_cases hj : j < n
  · rw [vec_get hj]
    by_cases e : i = j
    · subst e
      rw [List.getElem?_set_self (by rw [vec_len]; exact hj), if_pos rfl]
    · rw [List.getElem?_set_ne e, vec_get hj, if_neg fun z => e z.symm]
  · rw [List.getElem?_eq_none (by rw [List.length_set, vec_len]; omega), List.getElem?_eq_none (by rw [vec_len]; omega)]
theorem isFL_vec {n : Nat} {f : Nat → D} (h : ∀ i, i < n → isF (f i) = true) : isFL (vec n f) = true := isFL_all.mpr fun x hx => by
  obtain ⟨i, hi, e⟩ := List.mem_map.mp hx
  rw [← e]
  exact h i (by simpa using hi)
theorem frzL_eq : ∀ xs : List D, frzL xs = xs.map frz
  | [] => rfl
  | x :: xs => by rw [frzL_cons, frzL_eq xs]; rfl
theorem frzL_vec {n : Nat} {f : Nat → D} : frzL (vec n f) = vec n (fun i => frz (f i)) := by
  rw [frzL_eq]; unfold vec; rw [List.map_map]; rfl
theorem ixN_nat {n i : Nat} (h : i < n) : ixN n (i : Int) = some i := by
  unfold ixN
  have : ((i : Int) < (n : Int)) := by omega
  simp [this]
theorem atI_nat {α : Type} {xs : List α} {i : Nat} {x : α} (h : xs[i]? = some x) : atI xs (i : Int) = some x := by
  unfold atI
  rw [ixN_nat (List.getElem?_eq_some_iff.mp h).1]
  exact h
theorem ixL {xs : List D} {i : Nat} {d : D} {o : Bool} (h : xs[i]? = some d) : gIxO (.n .lst o xs) (.a (.int (i : Int))) = some d := atI_nat h
theorem ixT {xs : List D} {i : Nat} {d : D} {o : Bool} (h : xs[i]? = some d) : gIxO (.n .tup o xs) (.a (.int (i : Int))) = some d := atI_nat h
abbrev Tb : Type := Nat → Nat → Bool
def stepT (T : Tb) (y x : Nat) : Tb := fun a b => if a = x then T a b || (T x y && T y b) else T a b
def warX (T : Tb) (y : Nat) : Nat → Tb
  | 0 => T
  | k + 1 => stepT (warX T y k) y k
def war (T : Tb) (n : Nat) : Nat → Tb
  | 0 => T
  | k + 1 => warX (war T n k) k n
def base (ps : List (Nat × Nat)) : Tb := fun x y => decide ((x, y) ∈ ps)
def clo (n : Nat) (ps : List (Nat × Nat)) : Tb := war (base ps) n n
def Up (n : Nat) (r : Nat → Nat) (T : Tb) : Prop := ∀ a b, T a b = true → a < n ∧ b < n ∧ r a < r b
theorem up_step {n : Nat} {r : Nat → Nat} {T : Tb} (h : Up n r T) (y x : Nat) : Up n r (stepT T y x) := by
  intro a b hab
  unfold stepT at hab
  split at hab
  · rename_i e
    subst e
    rw [Bool.or_eq_true, Bool.and_eq_true] at hab
    rcases hab with hab | ⟨h1, h2⟩
    · exact h a b hab
    · exact ⟨(h _ _ h1).1, (h _ _ h2).2.1, Nat.lt_trans (h _ _ h1).2.2 (h _ _ h2).2.2⟩
  · exact h a b hab
theorem up_warX {n : Nat} {r : Nat → Nat} {T : Tb} (h : Up n r T) (y : Nat) : ∀ k, Up n r (warX T y k)
  | 0 => h
  | k + 1 => up_step (up_warX h y k) y k
theorem up_war {n : Nat} {r : Nat → Nat} {T : Tb} (h : Up n r T) : ∀ k, Up n r (war T n k)
  | 0 => h
  | k + 1 => up_warX (up_war h k) k n
theorem up_base {n : Nat} {r : Nat → Nat} {ps : List (Nat × Nat)} (h : PsOk n r ps) : Up n r (base ps) := fun a b hab => h (a, b) (by simpa [base] using hab)
theorem up_clo {n : Nat} {r : Nat → Nat} {ps : List (Nat × Nat)} (h : PsOk n r ps) : Up n r (clo n ps) := up_war (up_base h) n
theorem clo_irr {n : Nat} {ps : List (Nat × Nat)} (h : Acyc n ps) (x : Nat) : clo n ps x x = false := by
  obtain ⟨r, h⟩ := h
  cases e : clo n ps x x with
  | false => rfl
  | true => exact absurd (up_clo h x x e).2.2 (Nat.lt_irrefl _)
def mask (n : Nat) (f : Nat → Bool) : Nat := (List.range n).foldl (fun m z => if f z = true then m ||| 2 ^ z else m) 0
theorem mask_succ {n : Nat} {f : Nat → Bool} : mask (n + 1) f = if f n = true then mask n f ||| 2 ^ n else mask n f := by
  unfold mask
  rw [List.range_succ, List.foldl_append]
  rfl
theorem mask_bit {f : Nat → Bool} {z : Nat} : ∀ {n : Nat}, (mask n f).testBit z = (decide (z < n) && f z)
  | 0 => by simp [mask]
  | n + 1 => by
    rw [mask_succ]
    have ih := mask_bit (f := f) (z := z) (n := n)
    by_cases hz : z = n
    · subst hz
      cases hf : f z with
      | true => simp [hf, Nat.testBit_or, Nat.testBit_two_pow]
      | false => simp [hf, ih]
    · have h1 : decide (z < n + 1) = decide (z < n) := by
        apply decide_eq_decide.mpr
        omega
      rw [h1]
      split
      · rw [Nat.testBit_or, ih, Nat.testBit_two_pow]
        have : ¬ n = z := fun e => hz e.symm
        simp [this]
      · exact ih
theorem mask_of {n m : Nat} {f : Nat → Bool} (h : ∀ z, m.testBit z = (decide (z < n) && f z)) : m = mask n f := by
  apply Nat.eq_of_testBit_eq
  intro z
  rw [h, mask_bit]
theorem bor_nat (a b : Nat) : Builtin.bitOr (a : Int) (b : Int) = ((a ||| b : Nat) : Int) := by
  unfold Builtin.bitOr Builtin.bitAnd Builtin.bitNot
  have h1 : ¬ (0 : Int) ≤ -(a : Int) - 1 := by omega
  have h2 : ¬ (0 : Int) ≤ -(b : Int) - 1 := by omega
  simp only [decide_eq_false h1, decide_eq_false h2]
  have e1 : (-(-(a : Int) - 1) - 1).toNat = a := by omega
  have e2 : (-(-(b : Int) - 1) - 1).toNat = b := by omega
  rw [e1, e2]
  omega
end DC
namespace DC
open PySem L2 DL
theorem rep1 {n : Nat} {d : D} {P : D → Prop} (hf : isF d = true) (hn : n ≤ 1000000) : SO (gMul (.n .lst true [d]) (.a (.int (n : Int)))) P = P (.lst true (vec n fun _ => d)) := by
  unfold gMul gOr gMulI gII gRep
  have h1 : isFL [d] = true := by simp [hf]
  have e : (List.replicate n [d]).flatten = vec n fun _ => d := by
    have : ∀ m, (List.replicate m [d]).flatten = List.replicate m d := by
      intro m
      induction m with
      | zero => rfl
      | succ m ih => rw [List.replicate_succ, List.flatten_cons, ih]; rfl
    rw [this]
    apply List.ext_getElem?
    intro i
    by_cases hi : i < n
    · rw [vec_get hi, List.getElem?_replicate, if_pos hi]
    · rw [List.getElem?_eq_none (by simp; omega), List.getElem?_eq_none (by rw [vec_len]; omega)]
  have h2 : (-1000000 : Int) ≤ n := by omega
  have h3 : (n : Int) ≤ 1000000 := by omega
  simp [h1, h2, h3, hn, e]
theorem so_ixL {n x : Nat} {f : Nat → D} {o : Bool} {P : D → Prop} (h : x < n) : SO (gIxO (.n .lst o (vec n f)) (.a (.int (x : Int)))) P = P (f x) := by rw [ixL (vec_get h)]; rfl
theorem so_ixLF {n x : Nat} {f : Nat → D} {o : Bool} {P : D → Prop} (h : x < n) (hf : isF (f x) = true) : SO (gIx (.n .lst o (vec n f)) (.a (.int (x : Int)))) P = P (f x) := by
  unfold gIx
  rw [ixL (vec_get h)]
  simp [hf]
theorem so_ixTF {n x : Nat} {f : Nat → D} {o : Bool} {P : D → Prop} (h : x < n) (hf : isF (f x) = true) : SO (gIx (.n .tup o (vec n f)) (.a (.int (x : Int)))) P = P (f x) := by
  unfold gIx
  rw [ixT (vec_get h)]
  simp [hf]
theorem so_ixN {n x : Nat} {P : Nat → Prop} (h : x < n) : SO (ixN n (x : Int)) P = P x := by rw [ixN_nat h]; rfl
theorem o_shl1 {y : Nat} {P : D → Prop} (h : y ≤ 1000000) : SO (gShl (.a (.int 1)) (.a (.int (y : Int)))) P = P (.a (.int ((2 ^ y : Nat) : Int))) := by
  rw [o_shl]
  have : powOk 1 (y : Int) = true := by
    unfold powOk
    have h2 : (y : Int) ≤ 1000000 := by omega
    simp [h2]
  simp [this]
theorem base_take {ps : List (Nat × Nat)} {i : Nat} {p : Nat × Nat} (h : ps[i]? = some p) (a b : Nat) : base (ps.take (i + 1)) a b = (base (ps.take i) a b || decide ((a, b) = p)) := by
  unfold base
  rw [List.take_succ, h]
  simp
theorem mask_or {n m : Nat} {f g : Nat → Bool} (h : ∀ z, z < n → g z = (f z || m.testBit z)) (hm : ∀ z, m.testBit z = true → z < n) : mask n f ||| m = mask n g := by
  apply mask_of
  intro z
  rw [Nat.testBit_or, mask_bit]
  by_cases hz : z < n
  · simp [hz, h z hz]
  · have : m.testBit z = false := by
      cases e : m.testBit z with
      | false => rfl
      | true => exact absurd (hm z e) hz
    simp [hz, this]
theorem mask_congr {n : Nat} {f g : Nat → Bool} (h : ∀ z, z < n → f z = g z) : mask n f = mask n g := mask_of fun z => by
  rw [mask_bit]
  by_cases hz : z < n
  · simp [hz, h z hz]
  · simp [hz]
def mrow (n : Nat) (T : Tb) (x : Nat) : D := .a (.int ((mask n (T x) : Nat) : Int))
@[simp] theorem isF_mrow {n : Nat} {T : Tb} {x : Nat} : isF (mrow n T x) = true := rfl
@[simp] theorem frzL_mrow {n m : Nat} {T : Tb} : frzL (vec m (mrow n T)) = vec m (mrow n T) := by rw [frzL_vec]; rfl
@[simp] theorem isFL_mrow {n m : Nat} {T : Tb} : isFL (vec m (mrow n T)) = true := isFL_vec fun _ _ => rfl
end DC
namespace DC
open PySem L2 DL
theorem isint_eq (i : Int) : F_is_integer [.a (.int i)] = .rt (.a (.bl true)) none := by
  apply wf_eq
  unfold F_is_integer
  rw [wf_fn]
  unfold B_is_integer
  simp [ioOf, o_isi (t := "int") (d := .a (.int i)) rfl, isiT]
theorem place_eq (x : Nat) (hx : x ≤ 100) : F_law_place [.a (.int (x : Int))] = .rt (.a (.int ((2 ^ x : Nat) : Int))) none := by
  apply wf_eq
  unfold F_law_place
  rw [wf_fn]
  unfold B_law_place
  simp [ioOf]
  refine ⟨by omega, ?_⟩
  refine wp_for (fun i ρ => ∃ v : Option D, ρ = [some (.a (.int (x : Int))), some (.a (.int ((2 ^ i : Nat) : Int))), v]) ?_ ?_ ?_
  · exact ⟨none, by simp⟩
  · intro i d ρ hd h
    obtain ⟨v, hρ⟩ := h
    subst hρ
    have hq := intL_get hd
    have hi := hq.2
    have he := hq.1
    subst he
    have b2 : Builtin.Int.intBits (2 : Int) ≤ 2 := bits_c (by decide)
    have b1 := PySem.intBits_pow_le b2 i
    simp
    exact ⟨mulOk_of b1 b2 (by omega), by rw [Int.pow_succ]⟩
  · intro ρ h
    obtain ⟨v, hρ⟩ := h
    subst hρ
    rw [intL_len]
    simp
def ordD (n : Nat) (ms : List D) : D := .n (.ins "Order" ["n", "above"]) false [.a (.int (n : Int)), .n .tup false ms]
end DC
namespace DL
open PySem L2
def asA (d : D) (P : At → Prop) : Prop := match d with
  | .a x => P x
  | _ => False
@[simp] theorem asA_a {x : At} {P : At → Prop} : asA (.a x) P = P x := rfl
def asIA (a : At) (P : Int → Prop) : Prop := match a with
  | .int i => P i
  | _ => False
@[simp] theorem asIA_int {i : Int} {P : Int → Prop} : asIA (.int i) P = P i := rfl
section
variable {ρ : DL.Env} {i : Nat} {Q : Ps} {d : D}
@[simp] theorem q_Var {P : At → Prop} : SO (qVar i ρ) P = SO (ρ[i]?) fun o => SO o fun d => asA d P := by
  unfold qVar
  split
  · rename_i x h; rw [h]; rfl
  · rename_i h
    cases e : ρ[i]? with
    | none => rfl
    | some o =>
      cases o with
      | none => rfl
      | some d =>
        cases d with
        | a x => exact absurd e (h x)
        | n _ _ _ => rfl
@[simp] theorem q_Op {f : Int → Int → Int} {g h : DL.Env → Option At} {P : At → Prop} : SO (qOp f g h ρ) P = SO (g ρ) fun a => SO (h ρ) fun b => asIA a fun i => asIA b fun j => P (.int (f i j)) := by
  unfold qOp
  cases e1 : g ρ with
  | none => rfl
  | some a =>
    cases e2 : h ρ with
    | none => cases a <;> rfl
    | some b => cases a <;> cases b <;> rfl
@[simp] theorem p_Sub2 {qa qb : DL.Env → Option At} : WP Q (stSub2 i qa qb d ρ) = SO (ρ[i]?) fun o => SO o fun x => asL x fun xs => SO (qa ρ) fun a => SO (qb ρ) fun b => asIA a fun a => asIA b fun b => SO (ixN xs.length a) fun j => SO (xs[j]?) fun row => asL row fun ys => SO (ixN ys.length b) fun l => isF d = true ∧ Q.nx (ρ.set i (some (.lst true (xs.set j (.lst true (ys.set l d)))))) := by
  unfold stSub2
  split
  · rename_i xs h
    rw [h]
    dsimp only [so_some, asL_lst]
    cases e1 : qa ρ with
    | none => rfl
    | some a =>
      cases e2 : qb ρ with
      | none => cases a <;> rfl
      | some b =>
        cases a with
        | int a =>
          cases b with
          | int b =>
            dsimp only [so_some, asIA_int]
            cases ixN xs.length a with
            | none => rfl
            | some j =>
              dsimp only [so_some]
              split
              · rename_i ys h2
                rw [h2]
                dsimp only [so_some, asL_lst]
                cases ixN ys.length b with
                | none => rfl
                | some l =>
                  dsimp only [so_some]
                  split
                  · rename_i h3; simp [h3]
                  · rename_i h3; simp [h3, WP]
              · rename_i h2
                cases e : xs[j]? with
                | none => rfl
                | some x =>
                  dsimp only [so_some]
                  rw [asL_cases fun ys z => h2 ys (by rw [e, z])]
                  rfl
          | _ => rfl
        | _ => rfl
  · rename_i h
    cases e : ρ[i]? with
    | none => rfl
    | some o =>
      cases o with
      | none => rfl
      | some d =>
        dsimp only [so_some]
        rw [asL_cases fun xs z => h xs (by rw [e, z])]
        rfl
@[simp] theorem w_Yes {E : Exn → DL.Env → Prop} {P : Bool → DL.Env → Prop} : WO E P (dYes ρ) = P true ρ := rfl
@[simp] theorem wipeE_nil : wipeE ρ [] = ρ := rfl
@[simp] theorem wipeE_cons {v : Nat} {vs : List Nat} : wipeE ρ (v :: vs) = (wipeE ρ vs).set v none := rfl
variable {ρ1 : DL.Env} {v : Nat} {vs : List Nat}
@[simp] theorem backE_nil : backE ρ1 [] ρ = ρ := rfl
@[simp] theorem backE_none (h : ρ1[v]? = some none) : backE ρ1 (v :: vs) ρ = backE ρ1 vs ρ := by
  conv => lhs; unfold backE
  rw [h]
@[simp] theorem backE_some (h : ρ1[v]? = some (some d)) (hf : isF d = true) (hl : v < (backE ρ1 vs ρ).length) : backE ρ1 (v :: vs) ρ = (backE ρ1 vs ρ).set v (some d) := by
  conv => lhs; unfold backE
  rw [h]
  simp [hf, hl]
end
end DL
namespace DC
open PySem L2 DL
theorem intL_vec (n : Nat) : intL 0 n = vec n fun i => .a (.int (i : Int)) := by
  unfold intL vec
  apply List.map_congr_left
  intro a _
  simp
theorem vec_filter {n : Nat} {f : Nat → D} {tb : D → Bool} : (vec n f).filter tb = ((List.range n).filter fun i => tb (f i)).map f := by
  unfold vec
  rw [List.filter_map]
  rfl
theorem vec_all {n : Nat} {f fv : Nat → D} {g : D → D} (h : ∀ i, i < n → g (f i) = fv i) : ((vec n f).filter fun _ => true).map g = vec n fv := by
  rw [List.filter_eq_self.mpr (fun _ _ => rfl)]
  unfold vec
  rw [List.map_map]
  apply List.map_congr_left
  intro i hi
  exact h i (by simpa using hi)
theorem mem_vec {n : Nat} {f : Nat → D} {d : D} (h : d ∈ vec n f) : ∃ i, i < n ∧ d = f i := by
  obtain ⟨i, hi, e⟩ := List.mem_map.mp h
  exact ⟨i, by simpa using hi, e.symm⟩
@[simp] theorem o_itL {o : Bool} {xs : List D} {P : List D → Prop} : SO (itemsOf (.n .lst o xs)) P = (xs.length ≤ 1000000 ∧ P xs) := by
  unfold itemsOf
  by_cases h : xs.length ≤ 1000000 <;> simp [h]
@[simp] theorem o_itT {o : Bool} {xs : List D} {P : List D → Prop} : SO (itemsOf (.n .tup o xs)) P = (xs.length ≤ 1000000 ∧ P xs) := by
  unfold itemsOf
  by_cases h : xs.length ≤ 1000000 <;> simp [h]
def brow (o : Bool) (n : Nat) (T : Tb) (x : Nat) : D := .n .lst o (vec n fun y => .a (.bl (T x y)))
theorem isFL_brow {n : Nat} {T : Tb} : isFL (vec n (brow false n T)) = true := isFL_vec fun i _ => by
  unfold brow
  rw [isF_n, isFL_vec fun _ _ => rfl]
  rfl
end DC
namespace DC
open PySem L2 DL
def tbI (f : Nat → Bool) : D → Bool
  | .a (.int i) => f i.toNat
  | _ => false
theorem filter_vecI {n : Nat} {f : Nat → Bool} : ((vec n fun i => .a (.int (i : Int))).filter (tbI f)).map (fun d => d) = ((List.range n).filter f).map natD := by
  rw [vec_filter, List.map_map]
  unfold natD
  congr 1
theorem filter_range {f : Nat → Bool} {a : Nat} (h : ∀ z, a ≤ z → f z = false) : ∀ c, a ≤ c → (List.range c).filter f = (List.range a).filter f
  | 0, hc => by
    have : a = 0 := by omega
    rw [this]
  | c + 1, hc => by
    by_cases e : a = c + 1
    · rw [e]
    · rw [List.range_succ, List.filter_append, filter_range h c (by omega)]
      simp [h c (by omega)]
theorem bits_nat_lt (m : Nat) : m < 2 ^ Builtin.Int.intBits (m : Int) := by
  have := PySem.intBits_le_iff.mp (Nat.le_refl (Builtin.Int.intBits (m : Int)))
  simpa using this
theorem shr_bit (m x : Nat) : decide (Builtin.bitAnd ((m : Int) / 2 ^ x) 1 = 1) = m.testBit x := by
  rw [PyProof.Rows.bitAnd_m1, Nat.testBit_eq_decide_div_mod_eq]
  congr 1
  have : ((m : Int) / 2 ^ x) = ((m / 2 ^ x : Nat) : Int) := by simp
  rw [this]
  simp only [eq_iff_iff]
  omega
theorem members_eq {m n : Nat} (hm : m < 2 ^ n) (hn : n ≤ 100) : F_members [.a (.int (m : Int))] = .rt (.n .tup false (((List.range n).filter m.testBit).map natD)) none := by
  have hb : Builtin.Int.intBits (m : Int) ≤ n := PySem.intBits_le_iff.mpr (by simpa using hm)
  have hf : ∀ c, Builtin.Int.intBits (m : Int) ≤ c → (List.range c).filter m.testBit = (List.range (Builtin.Int.intBits (m : Int))).filter m.testBit := fun c hc => filter_range (fun z hz => Nat.testBit_lt_two_pow (Nat.lt_of_lt_of_le (bits_nat_lt m) (Nat.pow_le_pow_right (by decide) hz))) c hc
  apply wf_eq
  unfold F_members
  rw [wf_fn]
  unfold B_members
  simp [ioOf, intL_vec]
  refine ⟨by omega, ?_⟩
  rw [lcL_run (tbI m.testBit) (fun d => d)]
  · rw [wo_ok, filter_vecI, hf n hb]
    simp
  · intro d hd
    obtain ⟨i, hi, rfl⟩ := mem_vec hd
    simp [shr_bit, tbI]
theorem str_na : ¬ ("above" : Str) = "n" := by decide +kernel
theorem fld_above {n : Nat} {ms : List D} {P : D → Prop} (h : isFL ms = true) : SO (gFld "above" (ordD n ms)) P = P (.n .tup false ms) := by
  have hb : (("above" : Str) == ("n" : Str)) = false := by simpa using str_na
  unfold gFld ordD
  simp [List.lookup_cons, hb, h]
theorem fld_n {n : Nat} {ms : List D} {P : D → Prop} : SO (gFld "n" (ordD n ms)) P = P (.a (.int (n : Int))) := by
  unfold gFld ordD
  simp [List.lookup_cons]
theorem isF_ord {n : Nat} {ms : List D} (h : isFL ms = true) : isF (ordD n ms) = true := by
  unfold ordD
  simp [h]
abbrev ordT (n : Nat) (T : Tb) : D := ordD n (vec n (mrow n T))
theorem isF_ordT {n : Nat} {T : Tb} : isF (ordT n T) = true := isF_ord isFL_mrow
theorem less_eq {n x y : Nat} {T : Tb} (hx : x < n) (hy : y < n) : F_Order_less [ordT n T, .a (.int (x : Int)), .a (.int (y : Int))] = .rt (.a (.bl (T x y))) none := by
  apply wf_eq
  unfold F_Order_less
  rw [wf_fn]
  unfold B_Order_less
  simp [ioOf, isF_ordT, fld_above, so_ixTF (f := mrow n T) (o := false) hx rfl]
  simp [mrow, has_eq, mask_bit, hy]
theorem asIns_ord {n : Nat} {ms : List D} {P : Str → List Str → List D → Prop} : asIns (ordD n ms) P = P "Order" ["n", "above"] [.a (.int (n : Int)), .n .tup false ms] := rfl
theorem ordD_eq {n : Nat} {ms : List D} : (.n (.ins "Order" ["n", "above"]) false [.a (.int (n : Int)), .n .tup false ms]) = ordD n ms := rfl
def anti (n : Nat) (T : Tb) (m : Nat) : Bool := ((List.range n).filter m.testBit).all fun x => decide ((mask n (T x) &&& m) = 0)
theorem filter_nil_all {α : Type} {l : List α} {p : α → Bool} : decide ((l.filter p).length = 0) = l.all fun x => !p x := by
  induction l with
  | nil => rfl
  | cons x l ih =>
    rw [List.filter_cons, List.all_cons, ← ih]
    cases h : p x <;> simp [h]
theorem antichain_eq {n m : Nat} {T : Tb} (hm : m < 2 ^ n) (hn : n ≤ 60) : F_Order_is_antichain [ordT n T, .a (.int (m : Int))] = .rt (.a (.bl (anti n T m))) none := by
  apply wf_eq
  unfold F_Order_is_antichain
  rw [wf_fn]
  unfold B_Order_is_antichain
  simp [ioOf, isF_ordT, members_eq hm (show n ≤ 100 by omega)]
  have hlen : ((List.range n).filter m.testBit).length ≤ n := Nat.le_trans (List.length_filter_le _ _) (by simp)
  refine ⟨by omega, ?_⟩
  rw [lcL_run (tbI fun x => decide ((mask n (T x) &&& m) ≠ 0)) (fun d => d)]
  · rw [wo_ok]
    unfold anti
    simp
    rw [Bool.eq_iff_iff]
    simp [List.filter_eq_nil_iff, tbI, natD]
    constructor
    · intro h x hx
      cases hb : m.testBit x with
      | false => exact .inl rfl
      | true =>
        right
        have := h _ x hx hb rfl
        simpa using this
    · intro h a x hx hb e
      subst e
      rcases h x hx with q | q
      · rw [hb] at q; cases q
      · simp [q]
  · intro d hd
    obtain ⟨x, hx, rfl⟩ := List.mem_map.mp hd
    have hx2 : x < n := by simpa using (List.mem_filter.mp hx).1
    simp [natD, isF_ordT, fld_above, so_ixTF (f := mrow n T) (o := false) hx2 rfl]
    simp [mrow, PySem.W.os_band, tbI]
end DC
namespace DC
open PySem L2 DL
theorem warX_eq (T : Tb) (y : Nat) : ∀ k a b, warX T y k a b = if a < k then T a b || (T a y && T y b) else T a b
  | 0, a, b => by simp [warX]
  | k + 1, a, b => by
    have ih := warX_eq T y k
    show stepT (warX T y k) y k a b = _
    unfold stepT
    by_cases e : a = k
    · subst e
      rw [if_pos rfl, ih a b, ih a y, ih y b]
      simp only [Nat.lt_irrefl, if_false, if_pos (Nat.lt_succ_self a)]
      by_cases h : y < a
      · rw [if_pos h]
        cases T a b <;> cases T a y <;> cases T y b <;> cases T y y <;> rfl
      · rw [if_neg h]
    · rw [if_neg e, ih a b]
      by_cases h : a < k
      · rw [if_pos h, if_pos (by omega)]
      · rw [if_neg h, if_neg (by omega)]
theorem war_bd {n : Nat} {T : Tb} (h : ∀ a b, T a b = true → a < n ∧ b < n) : ∀ k a b, war T n k a b = true → a < n ∧ b < n
  | 0, a, b, e => h a b e
  | k + 1, a, b, e => by
    have ih := war_bd h k
    have e : warX (war T n k) k n a b = true := e
    rw [warX_eq] at e
    split at e
    · rename_i ha
      rw [Bool.or_eq_true, Bool.and_eq_true] at e
      rcases e with e | ⟨e1, e2⟩
      · exact ih a b e
      · exact ⟨ha, (ih _ _ e2).2⟩
    · exact ih a b e
theorem war_step {n : Nat} {T : Tb} (h : ∀ a b, T a b = true → a < n ∧ b < n) (k a b : Nat) : war T n (k + 1) a b = true ↔ war T n k a b = true ∨ (war T n k a k = true ∧ war T n k k b = true) := by
  show warX (war T n k) k n a b = true ↔ _
  rw [warX_eq]
  split
  · rw [Bool.or_eq_true, Bool.and_eq_true]
  · rename_i ha
    constructor
    · exact fun e => .inl e
    · rintro (e | ⟨e, _⟩)
      · exact e
      · exact absurd (war_bd h k _ _ e).1 ha
theorem war_thru {n : Nat} {T : Tb} (h : ∀ a b, T a b = true → a < n ∧ b < n) : ∀ k a m b, m < k → war T n k a m = true → war T n k m b = true → war T n k a b = true
  | 0, _, _, _, hm, _, _ => absurd hm (by omega)
  | k + 1, a, m, b, hm, e1, e2 => by
    have ih := war_thru h k
    rw [war_step h] at e1 e2 ⊢
    by_cases e : m = k
    · subst e
      have f1 : war T n m a m = true := by
        rcases e1 with e1 | e1
        · exact e1
        · exact e1.1
      have f2 : war T n m m b = true := by
        rcases e2 with e2 | e2
        · exact e2
        · exact e2.2
      exact .inr ⟨f1, f2⟩
    · have hm : m < k := by omega
      rcases e1 with e1 | ⟨e1, e1'⟩
      · rcases e2 with e2 | ⟨e2, e2'⟩
        · exact .inl (ih a m b hm e1 e2)
        · exact .inr ⟨ih a m k hm e1 e2, e2'⟩
      · rcases e2 with e2 | ⟨e2, e2'⟩
        · exact .inr ⟨e1, ih k m b hm e1' e2⟩
        · exact .inr ⟨e1, e2'⟩
def Bd (n : Nat) (ps : List (Nat × Nat)) : Prop := ∀ p ∈ ps, p.1 < n ∧ p.2 < n
theorem Acyc.bd {n : Nat} {ps : List (Nat × Nat)} (h : Acyc n ps) : Bd n ps := by
  obtain ⟨r, hr⟩ := h
  exact fun p hp => ⟨(hr p hp).1, (hr p hp).2.1⟩
theorem base_bd {n : Nat} {ps : List (Nat × Nat)} (h : Bd n ps) (a b : Nat) (e : base ps a b = true) : a < n ∧ b < n := h (a, b) (by simpa [base] using e)
theorem clo_bd {n : Nat} {ps : List (Nat × Nat)} (h : Bd n ps) {a b : Nat} (e : clo n ps a b = true) : a < n ∧ b < n := war_bd (base_bd h) n a b e
theorem clo_trans {n : Nat} {ps : List (Nat × Nat)} (h : Bd n ps) {a m b : Nat} (e1 : clo n ps a m = true) (e2 : clo n ps m b = true) : clo n ps a b = true :=
  war_thru (base_bd h) n a m b (clo_bd h e2).1 e1 e2
theorem Acyc.up {n : Nat} {ps : List (Nat × Nat)} (h : Acyc n ps) : ∃ r : Nat → Nat, Up n r (clo n ps) := by
  obtain ⟨r, hr⟩ := h
  exact ⟨r, up_clo hr⟩
def covs (n : Nat) (T : Tb) : Nat → Nat → Bool := fun x y => T x y && (List.range n).all fun z => !(T x z && T z y)
end DC
namespace DC
open PySem L2 DL
def setm (l : List Nat) : Nat := l.foldl (fun m z => m ||| 2 ^ z) 0
theorem mask_setm (n : Nat) (f : Nat → Bool) : mask n f = setm ((List.range n).filter f) := by
  unfold mask setm
  rw [List.foldl_filter]
theorem foldl_take {α β : Type} {g : β → α → β} {b : β} {l : List α} {i : Nat} {x : α} (h : l[i]? = some x) : (l.take (i + 1)).foldl g b = g ((l.take i).foldl g b) x := by
  rw [List.take_succ, h, List.foldl_append]
  rfl
theorem set_of_eq {k : Kd} (hk : k = .lst ∨ k = .tup) {l : List Nat} (hl : l.length ≤ 1000000) (hb : ∀ x ∈ l, x ≤ 1000000) : F_set_of [.n k false (l.map natD)] = .rt (.a (.int ((setm l : Nat) : Int))) none := by
  apply wf_eq
  unfold F_set_of
  rw [wf_fn]
  unfold B_set_of
  have hi : ∀ P : List D → Prop, SO (itemsOf (.n k false (l.map natD))) P = P (l.map natD) := by
    intro P
    rcases hk with e | e <;> subst e <;> simp [hl]
  simp [ioOf, hi]
  refine wp_for (fun i ρ => ∃ v : Option D, ρ = [some (.n k false (l.map natD)), some (.a (.int (((l.take i).foldl (fun m z => m ||| 2 ^ z) 0 : Nat) : Int))), v]) ?_ ?_ ?_
  · exact ⟨none, by simp⟩
  · intro i d ρ hd h
    obtain ⟨v, hρ⟩ := h
    subst hρ
    obtain ⟨x, hx, e⟩ := natD_get hd
    subst e
    have hx2 := hb x (List.mem_of_getElem? hx)
    rw [foldl_take hx]
    simp [natD, o_shl1 hx2]
    rw [show (2 : Int) ^ x = ((2 ^ x : Nat) : Int) by simp, bor_nat]
  · intro ρ h
    obtain ⟨v, hρ⟩ := h
    subst hρ
    simp [setm]
theorem mask_lt (n : Nat) (f : Nat → Bool) : mask n f < 2 ^ n := by
  apply Nat.lt_pow_two_of_testBit
  intro i hi
  rw [mask_bit]
  simp [show ¬ i < n by omega]
end DC
namespace DC
open PySem L2 DL
theorem mask_members {n : Nat} {f : Nat → Bool} (hn : n ≤ 100) : F_members [.a (.int ((mask n f : Nat) : Int))] = .rt (.n .tup false (((List.range n).filter f).map natD)) none := by
  rw [members_eq (mask_lt n f) hn]
  have : (List.range n).filter (mask n f).testBit = (List.range n).filter f := List.filter_congr fun x hx => by
    rw [mask_bit]
    simp [List.mem_range.mp hx]
  rw [this]
def rowp (n : Nat) (T : Tb) (x : Nat) : List (Nat × Nat) := ((List.range n).filter (T x)).map fun y => (x, y)
def prs (n : Nat) (T : Tb) : List (Nat × Nat) := (List.range n).flatMap (rowp n T)
theorem rowp_len {n : Nat} {T : Tb} {x : Nat} : (rowp n T x).length ≤ n := by
  unfold rowp
  rw [List.length_map]
  exact Nat.le_trans (List.length_filter_le _ _) (by simp)
theorem prs_take {n : Nat} {T : Tb} {x : Nat} : (List.range (x + 1)).flatMap (rowp n T) = (List.range x).flatMap (rowp n T) ++ rowp n T x := by
  rw [List.range_succ, List.flatMap_append]
  simp
theorem prs_len {n : Nat} {T : Tb} : ∀ x, ((List.range x).flatMap (rowp n T)).length ≤ x * n
  | 0 => by simp
  | x + 1 => by
    rw [prs_take, List.length_append, Nat.succ_mul]
    exact Nat.add_le_add (prs_len x) rowp_len
theorem pairs_eq {n : Nat} {T : Tb} (hn : n ≤ 60) : F_Order_pairs [ordT n T] = .rt (.n .tup false ((prs n T).map prD)) none := by
  apply wf_eq
  unfold F_Order_pairs
  rw [wf_fn]
  unfold B_Order_pairs
  simp [ioOf, isF_ordT, fld_n, intL_vec]
  refine ⟨by omega, ?_⟩
  refine wp_for (fun i ρ => ∃ v2 v3 : Option D, ρ = [some (ordT n T), some (.n .lst true (((List.range i).flatMap (rowp n T)).map prD)), v2, v3]) ?_ ?_ ?_
  · exact ⟨none, none, rfl⟩
  · intro x d ρ hd h
    obtain ⟨v2, v3, hρ⟩ := h
    subst hρ
    have hq := vec_get' hd
    have hx := hq.1
    have he := hq.2
    subst he
    have hlen : ((List.range n).filter (T x)).length ≤ n := Nat.le_trans (List.length_filter_le _ _) (by simp)
    simp [isF_ordT, fld_above, so_ixTF (f := mrow n T) (o := false) hx rfl]
    simp [mrow, mask_members (show n ≤ 100 by omega)]
    refine ⟨by omega, ?_⟩
    have hl0 := prs_len (n := n) (T := T) x
    have hx60 : x * n ≤ 3600 := Nat.mul_le_mul (show x ≤ 60 by omega) hn
    refine wp_for (fun i ρ => ∃ v3 : Option D, ρ = [some (ordT n T), some (.n .lst true (((List.range x).flatMap (rowp n T) ++ (rowp n T x).take i).map prD)), some (.a (.int (x : Int))), v3]) ?_ ?_ ?_
    · exact ⟨v3, by simp⟩
    · intro i d ρ hd h
      obtain ⟨v3, hρ⟩ := h
      subst hρ
      obtain ⟨y, hy, e⟩ := natD_get hd
      subst e
      have hr : (rowp n T x)[i]? = some (x, y) := by
        unfold rowp
        rw [List.getElem?_map, hy]
        rfl
      have hi : i < n := by
        have := (List.getElem?_eq_some_iff.mp hy).1
        omega
      rw [List.take_succ, hr]
      generalize (List.range x).flatMap (rowp n T) = A at *
      simp [natD, prD]
      omega
    · intro ρ h
      obtain ⟨v3, hρ⟩ := h
      subst hρ
      have e : (rowp n T x).take (((List.range n).filter (T x)).map natD).length = rowp n T x := List.take_of_length_le (by simp [rowp])
      rw [e]
      exact ⟨some (.a (.int (x : Int))), v3, by rw [prs_take]⟩
  · intro ρ h
    obtain ⟨v2, v3, hρ⟩ := h
    subst hρ
    simp [prs]
theorem below_eq {n : Nat} {T : Tb} (hn : n ≤ 60) : F_Order_below [ordT n T] = .rt (.n .tup false (vec n (mrow n fun y x => T x y))) none := by
  apply wf_eq
  unfold F_Order_below
  rw [wf_fn]
  unfold B_Order_below
  simp [ioOf, isF_ordT, fld_n, intL_vec]
  refine ⟨by omega, ?_⟩
  rw [lcL_run (fun _ => true) (fun d => match d with | .a (.int y) => mrow n (fun y x => T x y) y.toNat | _ => d)]
  · rw [wo_ok, vec_all (fv := mrow n fun y x => T x y) (fun i hi => by simp)]
    simp
  · intro d hd
    obtain ⟨y, hy, rfl⟩ := mem_vec hd
    simp [isF_ordT, fld_n, intL_vec]
    refine ⟨by omega, ?_⟩
    rw [lcL_run (tbI fun x => T x y) (fun d => d)]
    · rw [wo_ok, filter_vecI]
      simp
      have hlen : ((List.range n).filter fun x => T x y).length ≤ n := Nat.le_trans (List.length_filter_le _ _) (by simp)
      rw [set_of_eq (.inl rfl) (by omega) (fun x hx => by have := List.mem_range.mp (List.mem_filter.mp hx).1; omega)]
      simp [mrow, mask_setm]
    · intro d hd
      obtain ⟨x, hx, rfl⟩ := mem_vec hd
      simp [isF_ordT, fld_above, so_ixTF (f := mrow n T) (o := false) hx rfl]
      simp [mrow, has_eq, mask_bit, hy, tbI]
theorem g_row {n u : Nat} {T : Tb} {P : D → Prop} (hu : u < n) : SO (gIx (.n .lst false (vec n (brow false n T))) (.a (.int (u : Int)))) P = P (brow false n T u) := so_ixLF hu (by unfold brow; rw [isF_n, isFL_vec fun _ _ => rfl]; rfl)
end DC
namespace DC
open PySem L2 DL
theorem eqA_refl (x : At) : eqA x x = true := by cases x <;> simp [eqA]
mutual
theorem eqD_refl : ∀ (n : Nat) (d : D), pD n d = true → eqD d d = true
  | _, .a x, _ => by rw [eqD]; exact eqA_refl x
  | 0, .n .tup _ _, h => by simp [pD] at h
  | 0, .n .lst _ _, h => by simp [pD] at h
  | n + 1, .n .tup _ xs, h => by
    rw [eqD]
    exact eqDL_refl n xs (by simpa [pD] using h)
  | n + 1, .n .lst _ xs, h => by
    rw [eqD]
    exact eqDL_refl n xs (by simpa [pD] using h)
  | _, .n .scr _ _, h => by simp [pD] at h
  | _, .n (.dct _) _ _, h => by simp [pD] at h
  | _, .n (.ins _ _) _ _, h => by simp [pD] at h
theorem eqDL_refl : ∀ (n : Nat) (xs : List D), pDL n xs = true → eqDL xs xs = true
  | _, [], _ => by simp [eqDL]
  | n, x :: xs, h => by
    rw [pDL, Bool.and_eq_true] at h
    rw [eqDL, eqD_refl n x h.1, eqDL_refl n xs h.2]
    rfl
end
theorem pDL_all {m : Nat} : ∀ {xs : List D}, (∀ x ∈ xs, pD m x = true) → pDL m xs = true
  | [], _ => by simp [pDL]
  | x :: xs, h => by
    rw [pDL, h x (by simp), pDL_all fun y hy => h y (List.mem_cons_of_mem _ hy)]
    rfl
end DC
namespace DC
open PySem L2 DL
end DC
namespace DC
open PySem L2 DL
def Nms (d : D) : Prop := ∃ l : List Nat, d = .lst true (l.map natD) ∧ (∀ x ∈ l, x < 1009) ∧ l.length ≤ 10000
theorem next_wf {st : D} (h : Nms st) (m : Int) (hm : 0 < m) : WF NoE (fun d io => ∃ v : Int, d = .int v ∧ 0 ≤ v ∧ v < m ∧ ∃ st', io = some st' ∧ Nms st') (F_law_next [st, .int m]) := by
  obtain ⟨l, rfl, hx, hl⟩ := h
  unfold F_law_next
  rw [wf_fn]
  unfold B_law_next
  cases l with
  | nil =>
    simp [ioOf]
    exact ⟨hm, [], by simp, by simp, by simp⟩
  | cons a l =>
    have hs : seqIndex? 0 (l.length + 1) = some 0 := by
      have := seqIx_nat (v := 0) (n := l.length + 1) (by omega) (by omega)
      simpa using this
    have hne : ¬ ((l.length : Int) + 1 = 0) := by omega
    simp [ioOf, hs, hne, natD]
    refine ⟨hm, Int.emod_nonneg _ (by omega), Int.emod_lt_of_pos _ hm, l, rfl, fun x hx' => hx x (by simp [hx']), by simp at hl; omega⟩
end DC
namespace DC
open PySem L2 DL
def cyc : Exn := ⟨"Refused", [("reason", .str "cycle")]⟩
def Irr (n : Nat) (T : Tb) : Prop := ∀ x, x < n → T x x = false
theorem closed_wf {n : Nat} {ps : List (Nat × Nat)} (hr : Bd n ps) (hn : n ≤ 60) (hl : ps.length ≤ 100000) :
    WF (fun e _ => ¬ Irr n (clo n ps) ∧ e = cyc) (fun d io => Irr n (clo n ps) ∧ d = .tup (vec n (mrow n (clo n ps))) ∧ io = none) (F_u_closed [.a (.int (n : Int)), .n .lst false (ps.map prD)]) := by
  unfold F_u_closed
  rw [wf_fn]
  unfold B_u_closed
  simp [ioOf, itemsOf, hl, rep1 (d := .a (.int 0)) rfl (show n ≤ 1000000 by omega)]
  refine ⟨by omega, ?_⟩
  refine wp_for (fun i ρ => ∃ v3 v4 : Option D, ρ = [some (.a (.int (n : Int))), some (.n .lst false (ps.map prD)), some (.n .lst true (vec n (mrow n (base (ps.take i))))), v3, v4]) ?_ ?_ ?_
  · refine ⟨none, none, ?_⟩
    have e : vec n (mrow n (base (ps.take 0))) = vec n fun _ => .a (.int 0) := vec_ext fun i hi => by
      unfold mrow
      rw [mask_congr (g := fun _ => false) (fun z _ => by simp [base])]
      have : mask n (fun _ => false) = 0 := (mask_of (f := fun _ => false) (fun z => by simp)).symm
      rw [this]; rfl
    rw [e]
  · intro i d ρ hd h
    obtain ⟨v3, v4, hρ⟩ := h
    subst hρ
    rw [List.getElem?_map] at hd
    cases hp : ps[i]? with
    | none => rw [hp] at hd; cases hd
    | some p =>
      rw [hp] at hd
      cases hd
      obtain ⟨h1, h2⟩ := hr p (List.mem_of_getElem? hp)
      have h3 : p.2 ≤ 1000000 := by omega
      simp [prD, natD, so_ixL h1, mrow, o_shl1 h3, so_ixN h1, bor_nat, vec_set]
      apply vec_ext
      intro j hj
      unfold mrow
      split
      · rename_i e
        subst e
        rw [show (2 : Int) ^ p.2 = ((2 ^ p.2 : Nat) : Int) by simp, bor_nat]
        congr 3
        apply mask_or
        · intro z hz
          rw [base_take hp, Nat.testBit_two_pow]
          congr 1
          apply decide_eq_decide.mpr
          obtain ⟨a, b⟩ := p
          simp
          exact eq_comm
        · intro z hz
          rw [Nat.testBit_two_pow] at hz
          have : p.2 = z := by simpa using hz
          omega
      · rename_i e
        congr 3
        apply mask_congr
        intro z hz
        rw [base_take hp]
        have : decide ((j, z) = p) = false := decide_eq_false fun q => e (by rw [← q])
        rw [this, Bool.or_false]
  · intro ρ h
    obtain ⟨v3, v4, hρ⟩ := h
    subst hρ
    simp
    refine ⟨by omega, ?_⟩
    refine wp_for (fun k ρ => ∃ v3 v4 : Option D, ρ = [some (.a (.int (n : Int))), some (.n .lst false (ps.map prD)), some (.n .lst true (vec n (mrow n (war (base ps) n k)))), v3, v4]) ?_ ?_ ?_
    · exact ⟨v3, v4, rfl⟩
    · intro y d ρ hd h
      obtain ⟨v3, v4, hρ⟩ := h
      subst hρ
      obtain ⟨rfl, hy⟩ := intL_get hd
      simp
      refine ⟨by omega, ?_⟩
      refine wp_for (fun k ρ => ∃ v3 : Option D, ρ = [some (.a (.int (n : Int))), some (.n .lst false (ps.map prD)), some (.n .lst true (vec n (mrow n (warX (war (base ps) n y) y k)))), v3, some (.a (.int (y : Int)))]) ?_ ?_ ?_
      · exact ⟨v3, rfl⟩
      · intro x d ρ hd h
        obtain ⟨v3, hρ⟩ := h
        subst hρ
        obtain ⟨rfl, hx⟩ := intL_get hd
        have hx0 : (0 : Int) + (x : Int) = (x : Int) := by omega
        simp [so_ixL hx, so_ixL hy, mrow, has_eq, so_ixN hx, bor_nat, vec_set, mask_bit]
        have key : ∀ j z, warX (war (base ps) n y) y (x + 1) j z = if j = x then warX (war (base ps) n y) y x j z || (warX (war (base ps) n y) y x x y && warX (war (base ps) n y) y x y z) else warX (war (base ps) n y) y x j z := fun j z => rfl
        split
        · rename_i hc
          apply vec_ext
          intro j hj
          unfold mrow
          split
          · rename_i e
            subst e
            congr 3
            apply mask_or
            · intro z hz
              rw [key, if_pos rfl, hc.2, mask_bit, Bool.true_and]
              simp [hz]
            · intro z hz
              rw [mask_bit, Bool.and_eq_true] at hz
              exact of_decide_eq_true hz.1
          · rename_i e
            congr 3
            apply mask_congr
            intro z hz
            rw [key, if_neg e]
        · rename_i hc
          apply vec_ext
          intro j hj
          unfold mrow
          congr 3
          apply mask_congr
          intro z hz
          rw [key]
          split
          · rename_i e
            subst e
            cases hT : warX (war (base ps) n y) y j j y with
            | false => simp
            | true => exact absurd ⟨hy, hT⟩ hc
          · rfl
      · intro ρ h
        obtain ⟨v3, hρ⟩ := h
        subst hρ
        rw [intL_len]
        exact ⟨_, _, rfl⟩
    · intro ρ h
      obtain ⟨v3, v4, hρ⟩ := h
      subst hρ
      rw [intL_len]
      simp
      refine ⟨by omega, ?_⟩
      refine wp_for (fun k ρ => (∀ x, x < k → clo n ps x x = false) ∧ ∃ v3 : Option D, ρ = [some (.a (.int (n : Int))), some (.n .lst false (ps.map prD)), some (.n .lst false (vec n (mrow n (clo n ps)))), v3, v4]) ?_ ?_ ?_
      · exact ⟨fun x hx => absurd hx (Nat.not_lt_zero _), v3, rfl⟩
      · intro x d ρ hd h
        obtain ⟨hlt, v3, hρ⟩ := h
        subst hρ
        obtain ⟨rfl, hx⟩ := intL_get hd
        have hx0 : (0 : Int) + (x : Int) = (x : Int) := by omega
        rw [hx0]
        simp [so_ixLF (f := mrow n (clo n ps)) (o := false) hx rfl]
        simp [mrow, has_eq, mask_bit, hx]
        cases hT : clo n ps x x with
        | true =>
          simp [okStr]
          refine ⟨by decide +kernel, ⟨fun hi => ?_, rfl⟩⟩
          rw [hi x hx] at hT
          cases hT
        | false =>
          simp
          intro y hy
          rcases Nat.lt_or_ge y x with h | h
          · exact hlt y h
          · have : y = x := by omega
            subst this
            exact hT
      · intro ρ h
        obtain ⟨hlt, v3, hρ⟩ := h
        subst hρ
        rw [intL_len] at hlt
        simp
        exact hlt
theorem checked_any {k : Kd} (hk : k = .lst ∨ k = .tup) {n : Nat} {ps : List (Nat × Nat)} (h : Bd n ps) (hl : ps.length ≤ 100000) : F_u_checked_pairs [.a (.int (n : Int)), .n k false (ps.map prD)] = .rt (.n .lst false (ps.map prD)) none := by
  apply wf_eq
  unfold F_u_checked_pairs
  rw [wf_fn]
  unfold B_u_checked_pairs
  have e1 : ∀ P : D → Prop, SO (gIsi2 "list" "tuple" (.n k false (ps.map prD))) P = P (.a (.bl true)) := fun P => by
    rcases hk with rfl | rfl <;> simp [gIsi2, tyN, isiT]
  have e2 : ∀ P : List D → Prop, SO (itemsOf (.n k false (ps.map prD))) P = P (ps.map prD) := fun P => by
    rcases hk with rfl | rfl <;> simp <;> omega
  simp [ioOf, e1, e2]
  refine wp_for (fun i ρ => ∃ v3 v4 : Option D, ρ = [some (.a (.int (n : Int))), some (.n k false (ps.map prD)), some (.n .lst true ((ps.map prD).take i)), v3, v4]) ?_ ?_ ?_
  · exact ⟨none, none, rfl⟩
  · intro i d ρ hd h
    obtain ⟨v3, v4, hρ⟩ := h
    subst hρ
    rw [List.getElem?_map] at hd
    cases hp : ps[i]? with
    | none => rw [hp] at hd; cases hd
    | some p =>
      rw [hp] at hd
      cases hd
      obtain ⟨h1, h2⟩ := h p (List.mem_of_getElem? hp)
      simp [prD, natD, o_isi (t := "tuple") (d := .n .tup false _) rfl, isiT, itemsOf]
      refine wp_for (fun j ρ => ∃ v4 : Option D, ρ = [some (.a (.int (n : Int))), some (.n k false (ps.map prD)), some (.n .lst true ((ps.map prD).take i)), some (.n .tup false [natD p.1, natD p.2]), v4]) ?_ ?_ ?_
      · exact ⟨v4, rfl⟩
      · intro j d ρ hd h
        obtain ⟨v4, hρ⟩ := h
        subst hρ
        have key : ∃ x : Nat, d = .a (.int (x : Int)) ∧ x < n := by
          match j, hd with
          | 0, hd => cases hd; exact ⟨_, rfl, h1⟩
          | 1, hd => cases hd; exact ⟨_, rfl, h2⟩
          | (k + 2), hd => simp at hd
        obtain ⟨x, rfl, hx⟩ := key
        simp [isint_eq]
        exact hx
      · intro ρ h
        obtain ⟨v4, hρ⟩ := h
        subst hρ
        simp
        refine ⟨by omega, ?_⟩
        rw [List.take_succ, List.getElem?_map, hp]
        rfl
  · intro ρ h
    obtain ⟨v3, v4, hρ⟩ := h
    subst hρ
    have e : List.take (ps.map prD).length (ps.map prD) = ps.map prD := List.take_of_length_le (Nat.le_refl _)
    simp only [List.length_map] at e
    simp [e]
theorem init_wf {k : Kd} (hk : k = .lst ∨ k = .tup) {n : Nat} {ps : List (Nat × Nat)} (h : Bd n ps) (hn : n ≤ 10) (hl : ps.length ≤ 100000) :
    WF (fun e _ => ¬ Irr n (clo n ps) ∧ e = cyc) (fun d io => Irr n (clo n ps) ∧ d = .a .non ∧ io = some (.n (.ins "Order" ["n", "above"]) true [.a (.int (n : Int)), .n .tup false (vec n (mrow n (clo n ps)))]))
      (F_OrderU_initU [.n (.ins "Order" []) true [], .a (.int (n : Int)), .n k false (ps.map prD)]) := by
  have hc := closed_wf h (show n ≤ 60 by omega) hl
  have hk2 := checked_any hk h hl
  have hf : isF (.n k false (ps.map prD)) = true := by simp
  unfold F_OrderU_initU
  rw [wf_fn]
  unfold B_OrderU_initU
  have hneg : ¬ (n : Int) < 0 := by omega
  have hbig : ¬ (10 : Int) < n := by omega
  simp [ioOf, isint_eq, hk2, hneg, hbig]
  cases hF : F_u_closed [.a (.int (n : Int)), .n .lst false (ps.map prD)] with
  | st => rw [hF] at hc; exact hc.elim
  | ex e io => rw [hF] at hc; simp; exact hc
  | rt d io =>
    rw [hF] at hc
    obtain ⟨h1, rfl, rfl⟩ := hc
    simp
    exact ⟨by decide +kernel, h1⟩
end DC
namespace DL
open PySem L2
@[irreducible] def WX (Q : Ps) (f : DL.Env → Fl) (ρ : DL.Env) : Prop := WP Q (f ρ)
@[simp] theorem wx {Q : Ps} {f : DL.Env → Fl} {ρ : DL.Env} : WX Q f ρ = WP Q (f ρ) := by unfold WX; rfl
theorem wp_step {Q : Ps} {f g : DL.Env → Fl} {ρ : DL.Env} (h : ∀ K : DL.Env → Prop, (∀ ρ', WP Q (g ρ') → K ρ') → WX ⟨K, Q.rt, Q.bk, Q.ct, Q.ex⟩ f ρ) : WP Q (dSeq f g ρ) := by
  rw [p_Seq]
  have := h _ fun _ h => h
  rwa [wx] at this
theorem wp_cut {Q : Ps} {f g : DL.Env → Fl} {ρ : DL.Env} (R : DL.Env → Prop) (h1 : WP ⟨R, Q.rt, Q.bk, Q.ct, Q.ex⟩ (f ρ)) (h2 : ∀ ρ', R ρ' → WP Q (g ρ')) : WP Q (dSeq f g ρ) := by
  rw [p_Seq]
  cases hf : f ρ with
  | nx ρ1 => rw [hf] at h1; exact h2 _ h1
  | rt d ρ1 => rw [hf] at h1; exact h1
  | bk ρ1 => rw [hf] at h1; exact h1
  | ct ρ1 => rw [hf] at h1; exact h1
  | ex e ρ1 => rw [hf] at h1; exact h1
  | st => rw [hf] at h1; exact h1
theorem wp_cutK {Q : Ps} {f g : DL.Env → Fl} {ρ : DL.Env} (R : DL.Env → Prop) (h1 : ∀ K : DL.Env → Prop, (∀ ρ', R ρ' → K ρ') → WX ⟨K, Q.rt, Q.bk, Q.ct, Q.ex⟩ f ρ) (h2 : ∀ ρ', R ρ' → WP Q (g ρ')) : WP Q (dSeq f g ρ) := wp_cut R (by have := h1 R fun _ h => h; rwa [wx] at this) h2
section
variable {C : Str} {F : List D → FR} {fs gs : List Str} {xs ys : List D} {b neg : Bool} {io : Option D} {P : D → Prop}
end
end DL
namespace DC
open PySem L2 DL
instance {n : Nat} {T : Tb} : Decidable (Irr n T) := inferInstanceAs (Decidable (∀ x, x < n → T x x = false))
theorem size_eq {n : Nat} {T : Tb} : F_Order_size [ordT n T] = .rt (.a (.int (n : Int))) none := by
  apply wf_eq
  unfold F_Order_size
  rw [wf_fn]
  unfold B_Order_size
  simp [ioOf, isF_ordT, fld_n]
end DC
namespace DL
open PySem L2
theorem get_set_self {ρ : DL.Env} {i : Nat} {o : Option D} (h : i < ρ.length) : (ρ.set i o)[i]? = some o := by rw [List.getElem?_set_self h]
theorem get_set_ne {ρ : DL.Env} {i j : Nat} {o : Option D} (h : i ≠ j) : (ρ.set i o)[j]? = ρ[j]? := by rw [List.getElem?_set_ne h]
theorem set_set {ρ : DL.Env} {i : Nat} {o o' : Option D} : (ρ.set i o).set i o' = ρ.set i o' := List.set_set ..
theorem back_same {ρ : DL.Env} {v : Nat} (h : ∀ d, ρ[v]? = some (some d) → isF d = true) : backE ρ [v] (wipeE ρ [v]) = ρ := by
  rw [wipeE_cons, wipeE_nil]
  unfold backE
  cases e : ρ[v]? with
  | none =>
    rw [backE_nil]
    have hl : ρ.length ≤ v := List.getElem?_eq_none_iff.mp e
    exact List.set_eq_of_length_le hl
  | some o =>
    have hl : v < ρ.length := (List.getElem?_eq_some_iff.mp e).1
    cases o with
    | none =>
      dsimp only
      rw [backE_nil]
      apply List.ext_getElem?
      intro j
      by_cases q : v = j
      · subst q; rw [List.getElem?_set_self hl, e]
      · rw [List.getElem?_set_ne q]
    | some d =>
      dsimp only
      rw [backE_nil, if_pos ⟨h d e, by rw [List.length_set]; exact hl⟩, List.set_set]
      apply List.ext_getElem?
      intro j
      by_cases q : v = j
      · subst q; rw [List.getElem?_set_self hl, e]
      · rw [List.getElem?_set_ne q]
theorem w_lcF {E : Exn → DL.Env → Prop} {P : D → DL.Env → Prop} {ρ : DL.Env} {v : Nat} {src : DL.Env → Out (List D)} {t : DL.Env → Out Bool} {f : DL.Env → Out D} {ds : List D} (tb : D → Bool) (fv : D → D) (hv : ∀ d, ρ[v]? = some (some d) → isF d = true) (hl : v < ρ.length) (hsrc : src ρ = .ok ds ρ) (hc : ds.length ≤ 1000000)
    (ht : ∀ d ∈ ds, t (ρ.set v (some d)) = .ok (tb d) (ρ.set v (some d))) (hf : ∀ d ∈ ds, tb d = true → f (ρ.set v (some d)) = .ok (fv d) (ρ.set v (some d))) :
    WO E P (dLc [v] src (tg1 v) t f ρ) = P (.lst true ((ds.filter tb).map fv)) ρ := by
  rw [w_Lc, hsrc]
  simp only [wo_ok, capv, hc, true_and]
  have hw : wipeE ρ [v] = ρ.set v none := rfl
  rw [lcL_run tb fv]
  · rw [wo_ok, hw]
    have : wipeE (ρ.set v none) [v] = wipeE ρ [v] := by simp [wipeE]
    rw [this, back_same hv]
  · intro d hd
    rw [hw]
    rw [s_tg1]
    refine ⟨by rw [List.length_set]; exact hl, ?_⟩
    rw [List.set_set, ht d hd, wo_ok]
    refine ⟨rfl, ?_⟩
    cases h : tb d with
    | true =>
      rw [if_pos rfl, hf d hd h, wo_ok]
      exact ⟨rfl, by simp [wipeE]⟩
    | false =>
      rw [if_neg (by decide)]
      simp [wipeE]
theorem w_lcA {E : Exn → DL.Env → Prop} {P : D → DL.Env → Prop} {ρ : DL.Env} {v : Nat} {src : DL.Env → Out (List D)} {f : DL.Env → Out D} {ds : List D} (fv : D → D) (hv : ∀ d, ρ[v]? = some (some d) → isF d = true) (hl : v < ρ.length) (hsrc : src ρ = .ok ds ρ) (hc : ds.length ≤ 1000000)
    (hf : ∀ d ∈ ds, f (ρ.set v (some d)) = .ok (fv d) (ρ.set v (some d))) : WO E P (dLc [v] src (tg1 v) dYes f ρ) = P (.lst true (ds.map fv)) ρ := by
  rw [w_lcF (t := dYes) (fun _ => true) fv hv hl hsrc hc (fun d hd => rfl) (fun d hd _ => hf d hd)]
  have : ds.filter (fun _ => true) = ds := List.filter_eq_self.mpr fun _ _ => rfl
  rw [this]
theorem out_eq {α : Type} {o : Out α} {x : α} {ρ : DL.Env} (h : WO NoE (fun y ρ' => y = x ∧ ρ' = ρ) o) : o = .ok x ρ := by
  cases o with
  | ok y ρ' => obtain ⟨rfl, rfl⟩ := h; rfl
  | ex e ρ' => exact h.elim
  | st => exact h.elim
end DL
namespace DC
open PySem L2 DL
def natOf : D → Nat
  | .a (.int i) => i.toNat
  | _ => 0
@[simp] theorem natOf_int {i : Nat} : natOf (.a (.int (i : Int))) = i := rfl
@[simp] theorem natOf_natD {i : Nat} : natOf (natD i) = i := rfl
end DC
namespace DL
open PySem L2
theorem lcL_noex {vs : List Nat} {g : D → DL.Env → Option DL.Env} {t : DL.Env → Out Bool} {f : DL.Env → Out D} : ∀ {ds : List D} {ρ : DL.Env} (e : Exn) (ρ' : DL.Env), lcL vs g t f ds ρ ≠ .ex e ρ'
  | [], ρ, e, ρ' => by unfold lcL; exact fun h => nomatch h
  | d :: ds, ρ, e, ρ' => by
    unfold lcL
    cases g d ρ with
    | none => exact fun h => nomatch h
    | some ρ1 =>
      dsimp only
      cases t ρ1 with
      | st => exact fun h => nomatch h
      | ex e ρ2 => exact fun h => nomatch h
      | ok b ρ2 =>
        cases b with
        | false => exact lcL_noex e ρ'
        | true =>
          dsimp only
          cases f ρ2 with
          | st => exact fun h => nomatch h
          | ex e ρ3 => exact fun h => nomatch h
          | ok y ρ3 =>
            dsimp only
            cases lcL vs g t f ds (wipeE ρ3 vs) <;> exact fun h => nomatch h
theorem wo_lcL {E : Exn → DL.Env → Prop} {P : List D → DL.Env → Prop} {vs : List Nat} {g : D → DL.Env → Option DL.Env} {t : DL.Env → Out Bool} {f : DL.Env → Out D} {ds : List D} {ρ : DL.Env} (I : Nat → List D → DL.Env → Prop) (h0 : I 0 [] ρ)
    (hs : ∀ i d ys ρ, ds[i]? = some d → I i ys ρ → SO (g d ρ) fun ρ1 => WO NoE (fun b ρ2 => if b = true then WO NoE (fun y ρ3 => I (i + 1) (ys ++ [y]) (wipeE ρ3 vs)) (f ρ2) else I (i + 1) ys (wipeE ρ2 vs)) (t ρ1))
    (he : ∀ ys ρ, I ds.length ys ρ → P ys ρ) : WO E P (lcL vs g t f ds ρ) := by
  have key : ∀ (es : List D) (k : Nat) (ys : List D) (ρ : DL.Env) (P' : List D → DL.Env → Prop), (∀ i, es[i]? = ds[k + i]?) → k + es.length = ds.length → I k ys ρ → (∀ zs ρ', I ds.length (ys ++ zs) ρ' → P' zs ρ') → WO E P' (lcL vs g t f es ρ) := by
    intro es
    induction es with
    | nil =>
      intro k ys ρ P' _ hl hI hP
      have : k = ds.length := by simpa using hl
      subst this
      exact hP [] ρ (by simpa using hI)
    | cons d es ih =>
      intro k ys ρ P' hd hl hI hP
      have h1 : ds[k]? = some d := by
        have := hd 0
        simpa using this.symm
      have h2 := hs k d ys ρ h1 hI
      have hd' : ∀ i, es[i]? = ds[(k + 1) + i]? := fun i => by
        have := hd (i + 1)
        rw [List.getElem?_cons_succ] at this
        rw [this]
        congr 1
        omega
      have hl' : (k + 1) + es.length = ds.length := by simp at hl; omega
      unfold lcL
      cases hg : g d ρ with
      | none => rw [hg] at h2; exact h2.elim
      | some ρ1 =>
        rw [hg] at h2
        dsimp only [so_some] at h2 ⊢
        cases ht : t ρ1 with
        | st => rw [ht] at h2; exact h2.elim
        | ex e ρ2 => rw [ht] at h2; exact h2.elim
        | ok b ρ2 =>
          rw [ht] at h2
          dsimp only [wo_ok] at h2
          cases b with
          | false =>
            rw [if_neg (by decide)] at h2
            exact ih (k + 1) ys _ P' hd' hl' h2 hP
          | true =>
            rw [if_pos rfl] at h2
            dsimp only
            cases hf : f ρ2 with
            | st => rw [hf] at h2; exact h2.elim
            | ex e ρ3 => rw [hf] at h2; exact h2.elim
            | ok y ρ3 =>
              rw [hf] at h2
              dsimp only
              have h3 := ih (k + 1) (ys ++ [y]) (wipeE ρ3 vs) (fun zs ρ' => P' (y :: zs) ρ') hd' hl' h2 (fun zs ρ' hz => hP (y :: zs) ρ' (by simpa using hz))
              cases hr : lcL vs g t f es (wipeE ρ3 vs) with
              | st => rw [hr] at h3; exact h3.elim
              | ex e ρ4 => rw [hr] at h3; exact absurd hr (lcL_noex e ρ4)
              | ok zs ρ4 => rw [hr] at h3; exact h3
  exact key ds 0 [] ρ P (fun i => by rw [Nat.zero_add]) (by omega) h0 (fun zs ρ' hz => he zs ρ' (by simpa using hz))
end DL
namespace DC
open PySem L2 DL
def Tr (n : Nat) (T : Tb) : Prop := ∀ a b c, a < n → b < n → c < n → T a b = true → T b c = true → T a c = true
theorem mem_rowp {n : Nat} {T : Tb} {z x y : Nat} : (x, y) ∈ rowp n T z ↔ x = z ∧ y < n ∧ T z y = true := by
  unfold rowp
  rw [List.mem_map]
  constructor
  · rintro ⟨w, hw, e⟩
    rw [List.mem_filter, List.mem_range] at hw
    cases e
    exact ⟨rfl, hw⟩
  · rintro ⟨rfl, h⟩
    exact ⟨y, List.mem_filter.mpr ⟨List.mem_range.mpr h.1, h.2⟩, rfl⟩
theorem mem_prs {n : Nat} {T : Tb} {x y : Nat} : (x, y) ∈ prs n T ↔ x < n ∧ y < n ∧ T x y = true := by
  unfold prs
  rw [List.mem_flatMap]
  constructor
  · rintro ⟨z, hz, h⟩
    obtain ⟨rfl, h⟩ := mem_rowp.mp h
    exact ⟨List.mem_range.mp hz, h⟩
  · rintro ⟨h1, h⟩
    exact ⟨x, List.mem_range.mpr h1, mem_rowp.mpr ⟨rfl, h⟩⟩
theorem prs_bd {n : Nat} {T : Tb} : Bd n (prs n T) := fun p hp => by
  obtain ⟨x, y⟩ := p
  have := mem_prs.mp hp
  exact ⟨this.1, this.2.1⟩
theorem prs_lenn {n : Nat} {T : Tb} : (prs n T).length ≤ n * n := prs_len n
theorem clo_tr {n : Nat} {ps : List (Nat × Nat)} (h : Bd n ps) : Tr n (clo n ps) := fun a b c _ _ _ h1 h2 => clo_trans h h1 h2
theorem acyc_irr {n : Nat} {ps : List (Nat × Nat)} (h : Acyc n ps) : Irr n (clo n ps) := fun x _ => clo_irr h x
theorem mrow_congr {n m : Nat} {T S : Tb} (h : ∀ a b, a < m → b < n → T a b = S a b) : vec m (mrow n T) = vec m (mrow n S) := vec_ext fun a ha => by
  unfold mrow
  rw [mask_congr fun b hb => h a b ha hb]
abbrev bldO (n : Nat) (T : Tb) : D := .n (.ins "Order" ["n", "above"]) true [.a (.int (n : Int)), .n .tup false (vec n (mrow n T))]
theorem frz_ordT {n : Nat} {T : Tb} : frz (ordT n T) = ordT n T := frz_isF _ isF_ordT
theorem mk_of {k : Kd} (hk : k = .lst ∨ k = .tup) {n : Nat} {ps : List (Nat × Nat)} {T : Tb} (hb : Bd n ps) (hT : ∀ a b, a < n → b < n → clo n ps a b = T a b) (hi : Irr n T) (hn : n ≤ 10) (hl : ps.length ≤ 100000) : F_OrderU_initU [.n (.ins "Order" []) true [], .a (.int (n : Int)), .n k false (ps.map prD)] = .rt (.a .non) (some (bldO n T)) := by
  have h := init_wf hk hb hn hl
  have hi' : Irr n (clo n ps) := fun x hx => by rw [hT x x hx hx]; exact hi x hx
  unfold bldO
  rw [← mrow_congr hT]
  cases hF : F_OrderU_initU [.n (.ins "Order" []) true [], .a (.int (n : Int)), .n k false (ps.map prD)] with
  | st => rw [hF] at h; exact h.elim
  | ex e io => rw [hF] at h; exact absurd hi' h.1
  | rt d io =>
    rw [hF] at h
    obtain ⟨_, rfl, rfl⟩ := h
    rfl
end DC
namespace DC
open PySem L2 DL
theorem nfp : ¬ ("pairs" : Str) = "n" ∧ ¬ ("pairs" : Str) = "above" := by decide +kernel
theorem nfs : ¬ ("size" : Str) = "n" ∧ ¬ ("size" : Str) = "above" := by decide +kernel
theorem pairs_eq' {n : Nat} {T : Tb} (hn : n ≤ 60) : F_Order_pairs [.n (.ins "Order" ["n", "above"]) false [.a (.int (n : Int)), .n .tup false (vec n (mrow n T))]] = .rt (.n .tup false ((prs n T).map prD)) none := pairs_eq hn
theorem size_eq' {n : Nat} {T : Tb} : F_Order_size [.n (.ins "Order" ["n", "above"]) false [.a (.int (n : Int)), .n .tup false (vec n (mrow n T))]] = .rt (.a (.int (n : Int))) none := size_eq
@[simp] theorem o_listT {o : Bool} {xs : List D} {P : D → Prop} : SO (gList (.n .tup o xs)) P = P (.lst true xs) := rfl
def fstD : D → Nat
  | .n _ _ (d :: _) => natOf d
  | _ => 0
def sndD : D → Nat
  | .n _ _ (_ :: d :: _) => natOf d
  | _ => 0
@[simp] theorem fstD_pr {p : Nat × Nat} : fstD (prD p) = p.1 := rfl
@[simp] theorem sndD_pr {p : Nat × Nat} : sndD (prD p) = p.2 := rfl
end DC
namespace DL
open PySem L2
section
variable {Q : Ps} {ρ : DL.Env} {i j : Nat} {g : DL.Env → Out (List Ag)}
def as2 (ds : List Ag) (P : D → D → Prop) : Prop := match ds with
  | [.d a, .d b] => P a b
  | _ => False
@[simp] theorem as2_two {a b : D} {P : D → D → Prop} : as2 [.d a, .d b] P = P a b := rfl
@[simp] theorem p_Par : WP Q (dPar i j g ρ) = WO Q.ex (fun ds ρ1 => as2 ds fun a b => (i < ρ1.length ∧ j < ρ1.length) ∧ Q.nx ((ρ1.set i (some a)).set j (some b))) (g ρ) := by
  unfold dPar
  cases g ρ with
  | st => rfl
  | ex e ρ1 => rfl
  | ok ds ρ1 =>
    dsimp only [wo_ok]
    match ds with
    | [] => rfl
    | [.s _] => rfl
    | [.d _] => rfl
    | [.s _, .s _] => rfl
    | [.s _, .d _] => rfl
    | [.d _, .s _] => rfl
    | [.d a, .d b] =>
      dsimp only [as2]
      split
      · rename_i h; simp [h]
      · rename_i h; simp only [h, false_and]; rfl
    | _ :: _ :: _ :: _ =>
      rename_i a b c d
      cases a <;> cases b <;> rfl
end
theorem wp_forK {Q : Ps} {ρ : DL.Env} {f : DL.Env → Fl} {g : D → DL.Env → Option DL.Env} {ds : List D} (I : Nat → DL.Env → Prop) (h0 : I 0 ρ)
    (hs : ∀ i d ρ, ds[i]? = some d → I i ρ → ∀ J : DL.Env → Prop, (∀ ρ', I (i + 1) ρ' → J ρ') → SO (g d ρ) fun ρ1 => WP ⟨J, Q.rt, Q.nx, J, Q.ex⟩ (f ρ1)) (he : ∀ ρ, I ds.length ρ → Q.nx ρ) : WP Q (forL g f ds ρ) :=
  wp_for I h0 (fun i d ρ hd h => hs i d ρ hd h _ fun _ h => h) he
theorem wo_lcK {E : Exn → DL.Env → Prop} {P : List D → DL.Env → Prop} {vs : List Nat} {g : D → DL.Env → Option DL.Env} {t : DL.Env → Out Bool} {f : DL.Env → Out D} {ds : List D} {ρ : DL.Env} (I : Nat → List D → DL.Env → Prop) (h0 : I 0 [] ρ)
    (hs : ∀ i d ys ρ, ds[i]? = some d → I i ys ρ → ∀ J : List D → DL.Env → Prop, (∀ ys' ρ', I (i + 1) ys' ρ' → J ys' ρ') → SO (g d ρ) fun ρ1 => WO NoE (fun b ρ2 => if b = true then WO NoE (fun y ρ3 => J (ys ++ [y]) (wipeE ρ3 vs)) (f ρ2) else J ys (wipeE ρ2 vs)) (t ρ1))
    (he : ∀ ys ρ, I ds.length ys ρ → P ys ρ) : WO E P (lcL vs g t f ds ρ) :=
  wo_lcL I h0 (fun i d ys ρ hd h => hs i d ys ρ hd h _ fun _ _ h => h) he
end DL
namespace DC
open PySem L2 DL
theorem vec_succ {n : Nat} {f : Nat → D} : vec (n + 1) f = vec n f ++ [f n] := by simp [vec, List.range_succ]
theorem frzL_rows {n : Nat} {f g : Nat → D} (h : ∀ i, i < n → frz (f i) = g i) : frzL (vec n f) = vec n g := by
  rw [frzL_vec]; exact vec_ext h
theorem catL {o o' : Bool} {xs ys : List D} {P : D → Prop} (h1 : isFL xs = true) (h2 : isFL ys = true) (hl : xs.length + ys.length ≤ 1000000) : SO (gAdd (.n .lst o xs) (.n .lst o' ys)) P = P (.lst true (xs ++ ys)) := by
  unfold gAdd gOr gAddI gII gCatL
  simp [hl, h1, h2]
theorem catT {o o' : Bool} {xs ys : List D} {P : D → Prop} (h1 : isFL xs = true) (h2 : isFL ys = true) (hl : xs.length + ys.length ≤ 1000000) : SO (gAdd (.n .tup o xs) (.n .tup o' ys)) P = P (.tup (xs ++ ys)) := by
  unfold gAdd gOr gAddI gII gCatL gCatT
  simp [hl, h1, h2]
end DC
namespace DL
open PySem L2
@[simp] theorem p_Ext {Q : Ps} {ρ : DL.Env} {i : Nat} {o : Bool} {ys : List D} : WP Q (stExt i (.n .lst o ys) ρ) = SO (ρ[i]?) (fun o => SO o fun x => asL x fun xs => (xs.length + ys.length ≤ cap ∧ isFL ys = true) ∧ Q.nx (ρ.set i (some (.lst true (xs ++ ys))))) := by
  unfold stExt
  split
  · rename_i xs h
    rw [h]
    dsimp only [so_some, asL_lst]
    split
    · rename_i h; simp [h]
    · rename_i h; simp only [h, false_and]; rfl
  · rename_i h
    cases e : ρ[i]? with
    | none => rfl
    | some o =>
      cases o with
      | none => rfl
      | some d =>
        dsimp only [so_some]
        rw [asL_cases fun xs z => h xs (by rw [e, z])]
        rfl
end DL
namespace DC
open PySem L2 DL
def stt (s : Nat → Nat) : Nat → Nat
  | 0 => 0
  | x + 1 => stt s x + s x
open Classical in
noncomputable def lexT (m : Nat) (s : Nat → Nat) (A : Tb) (B : Nat → Tb) : Tb := fun p q => decide (∃ x i y k, x < m ∧ i < s x ∧ y < m ∧ k < s y ∧ p = stt s x + i ∧ q = stt s y + k ∧ (A x y = true ∨ (x = y ∧ B x i k = true)))
def blk (s : Nat → Nat) (p : Nat × Nat) : List (Nat × Nat) := (List.range (s p.1)).flatMap fun i => (List.range (s p.2)).map fun k => (stt s p.1 + i, stt s p.2 + k)
end DC
namespace DL
open PySem L2
end DL
namespace DC
open PySem L2 DL
def rowD (ps : List (Nat × Nat)) : D := .n .lst false (ps.map DC.prD)
@[simp] theorem isF_rowD {ps : List (Nat × Nat)} : isF (rowD ps) = true := by unfold rowD; simp
@[simp] theorem frz_rowD {ps : List (Nat × Nat)} : frz (rowD ps) = rowD ps := frz_isF _ isF_rowD
def tabD (n : Nat) (T : Tb) : D := .n .lst false (vec n (brow false n T))
@[simp] theorem isF_tabD {n : Nat} {T : Tb} : isF (tabD n T) = true := by unfold tabD; simp [isFL_brow]
@[simp] theorem frz_tabD {n : Nat} {T : Tb} : frz (tabD n T) = tabD n T := frz_isF _ isF_tabD
@[simp] theorem isF_brow' {n a : Nat} {T : Tb} : isF (brow false n T a) = true := by
  unfold brow; rw [isF_n, isFL_vec fun _ _ => rfl]; rfl
theorem g_row' {n u : Nat} {T : Tb} {P : D → Prop} (hu : u < n) : SO (gIx (tabD n T) (.a (.int (u : Int)))) P = P (brow false n T u) := g_row hu
end DC
namespace DC
open PySem L2 DL
end DC
namespace DL
open PySem L2
theorem wp_while {Q : Ps} {t : DL.Env → Out Bool} {b : DL.Env → Fl} (I : Nat → DL.Env → Prop) (hs : ∀ n ρ, I n ρ → WO Q.ex (fun c ρ1 => if c = true then WP ⟨fun ρ2 => ∃ k, k < n ∧ I k ρ2, Q.rt, Q.nx, fun ρ2 => ∃ k, k < n ∧ I k ρ2, Q.ex⟩ (b ρ1) else Q.nx ρ1) (t ρ)) : ∀ (m n : Nat) (ρ : DL.Env), n < m → I n ρ → WP Q (whL t b m ρ)
  | 0, n, ρ, hm, _ => absurd hm (Nat.not_lt_zero _)
  | m + 1, n, ρ, hm, h => by
    have h1 := hs n ρ h
    have nxt : ∀ ρ2, (∃ k, k < n ∧ I k ρ2) → WP Q (whL t b m ρ2) := fun ρ2 ⟨k, hk, h2⟩ => wp_while I hs m k ρ2 (by omega) h2
    unfold whL
    cases ht : t ρ with
    | st => rw [ht] at h1; exact h1.elim
    | ex e ρ1 => rw [ht] at h1; exact h1
    | ok c ρ1 =>
      rw [ht, wo_ok] at h1
      cases c with
      | false => rw [if_neg (by decide)] at h1; exact h1
      | true =>
        rw [if_pos rfl] at h1
        dsimp only
        cases hb : b ρ1 with
        | nx ρ2 => rw [hb] at h1; exact nxt ρ2 h1
        | ct ρ2 => rw [hb] at h1; exact nxt ρ2 h1
        | bk ρ2 => rw [hb] at h1; exact h1
        | rt d ρ2 => rw [hb] at h1; exact h1
        | ex e ρ2 => rw [hb] at h1; exact h1
        | st => rw [hb] at h1; exact h1
end DL
namespace DC
open PySem L2 DL
end DC
namespace DC
open PySem L2 DL
def up1 (c : Nat) : List Nat := (List.range c).map (· + 1)
def dv (k : Nat) : List Nat := (up1 k).filter fun d => decide (k % d = 0)
def dg (k i : Nat) : Nat := (dv k).getD i 0
end DC
namespace DC
open PySem L2 DL
theorem o_min2 {i j : Int} {P : D → Prop} : SO (gMin2 (.a (.int i)) (.a (.int j))) P = P (.a (.int (if j < i then j else i))) := rfl
theorem pow18 : gPow (.a (.int 10)) (.a (.int 18)) = some (.a (.int 1000000000000000000)) := by kernel_rfl
theorem scr_ix {ns : List Int} {k : Nat} {z : Int} {P : D → Prop} (h : ns[k]? = some z) : SO (gIx (.n .scr false (ns.map D.int)) (.a (.int (k : Int)))) P = P (.a (.int z)) := by
  unfold gIx gIxO
  dsimp only
  rw [atI_nat (x := D.int z) (by rw [List.getElem?_map, h]; rfl)]
  rfl
theorem len_scr {o : Bool} {xs : List D} {P : D → Prop} : SO (gLen (.n .scr o xs)) P = P (.a (.int xs.length)) := rfl
theorem numbers_wf (ns : List Int) (hl : ns.length ≤ 63) (hb : ∀ z ∈ ns, Builtin.Int.intBits z ≤ 1048576) : WF NoE (fun d io => Nms d ∧ io = none) (F_law_numbers [.scr (ns.map D.int)]) := by
  unfold F_law_numbers
  rw [wf_fn]
  unfold B_law_numbers
  have hf : isFL (ns.map D.int) = true := isFL_map fun _ => rfl
  have hS : D.scr (ns.map D.int) = .n .scr false (ns.map D.int) := rfl
  have hix := fun {k z} h P => @scr_ix ns k z P h
  rw [hS]
  generalize hd0 : D.n .scr false (ns.map D.int) = d0 at *
  have hf0 : isF d0 = true := by rw [← hd0]; simp [hf]
  have hlen : ∀ P : D → Prop, SO (gLen d0) P = P (.a (.int (ns.length : Nat))) := fun P => by rw [← hd0, len_scr]; simp
  refine wp_step fun K hK => ?_
  simp
  apply hK
  clear hK K
  have c63 : ¬ (63 : Int) < ns.length := by omega
  refine wp_cutK (fun ρ => ∃ (l : List Nat) (v2 v3 v4 v5 v6 : Option D), ρ = [some d0, some (.lst true (l.map natD)), v2, v3, v4, v5, v6] ∧ (∀ x ∈ l, x < 1009) ∧ l.length ≤ 10000) (fun K hK => ?_) ?_
  · simp [hf0, hlen, o_min2, c63]
    refine ⟨by omega, ?_⟩
    refine wp_forK (fun i ρ => ∃ (l : List Nat) (v2 v3 v4 v5 v6 : Option D), ρ = [some d0, some (.lst true (l.map natD)), v2, v3, v4, v5, v6] ∧ (∀ x ∈ l, x < 1009) ∧ l.length ≤ 60 * i) ⟨[], none, none, none, none, none, rfl, fun x hx => by simp at hx, by simp⟩ ?_ ?_
    · intro i d ρ hd h J hJ
      obtain ⟨l, v2, v3, v4, v5, v6, hρ, hx, hll⟩ := h
      subst hρ
      obtain ⟨rfl, hi⟩ := intL_get hd
      rw [show (0 : Int) + (i : Int) = i by omega]
      obtain ⟨z, hz⟩ : ∃ z, ns[i]? = some z := ⟨_, List.getElem?_eq_getElem hi⟩
      have bz := hb z (List.mem_of_getElem? hz)
      rw [s_tg1]
      refine ⟨by simp, ?_⟩
      refine wp_step fun K hK => ?_
      simp [hf0, hix hz]
      apply hK
      clear hK K
      have babs : 0 ≤ (if z < 0 then -z else z) := by split <;> omega
      generalize (if z < 0 then -z else z) = c at *
      simp [pow18]
      split
      · rename_i hc
        refine wp_forK (fun j ρ => ∃ (l : List Nat) (c : Int) (v4 : Option D), ρ = [some d0, some (.lst true (l.map natD)), some (.a (.int (i : Int))), some (.a (.int c)), v4, v5, v6] ∧ 0 ≤ c ∧ (∀ x ∈ l, x < 1009) ∧ l.length ≤ 60 * i + j) ⟨l, c, v4, rfl, babs, hx, by omega⟩ ?_ ?_
        · intro j d ρ hd h J2 hJ2
          obtain ⟨l, c, v4, hρ, h0, hx, hll⟩ := h
          subst hρ
          have hj : j < 60 := by
            have := (List.getElem?_eq_some_iff.mp hd).1
            rwa [intL_len] at this
          simp
          split
          · rename_i hc
            have hm0 := Int.emod_nonneg c (show (1009 : Int) ≠ 0 by decide)
            have hm1 := Int.emod_lt_of_pos c (show (0 : Int) < 1009 by decide)
            obtain ⟨w, hw⟩ := Int.eq_ofNat_of_zero_le hm0
            rw [hw]
            refine ⟨by omega, divOk_small (by decide) (by decide), ?_⟩
            refine hJ2 _ ⟨l ++ [w], c / 1009, some d, by simp [natD], Int.ediv_nonneg h0 (by decide), ?_, by simp; omega⟩
            intro x hx'
            rcases List.mem_append.mp hx' with q | q
            · exact hx x q
            · simp at q; subst q; omega
          · exact hJ2 _ ⟨l, c, some d, rfl, h0, hx, by omega⟩
        · intro ρ h
          obtain ⟨l, c, v4, hρ, h0, hx, hll⟩ := h
          subst hρ
          rw [intL_len] at hll
          exact hJ _ ⟨l, _, _, _, _, _, rfl, hx, by omega⟩
      · rename_i hc
        refine wp_forK (fun j ρ => ∃ (l : List Nat) (c : Int) (v5 v6 : Option D), ρ = [some d0, some (.lst true (l.map natD)), some (.a (.int (i : Int))), some (.a (.int c)), v4, v5, v6] ∧ 0 ≤ c ∧ c < 1000000000000000000 ∧ (∀ x ∈ l, x < 1009) ∧ l.length ≤ 60 * i + j) ⟨l, c, v5, v6, rfl, babs, by omega, hx, by omega⟩ ?_ ?_
        · intro j d ρ hd h J2 hJ2
          obtain ⟨l, c, v5, v6, hρ, h0, h1, hx, hll⟩ := h
          subst hρ
          obtain ⟨rfl, hj⟩ := intL_get hd
          rw [show (0 : Int) + (j : Int) = j by omega]
          have k1 : mulOk c 48271 = true := mulOk_of (bits_c (n := 60) (by omega)) (bits_c (n := 16) (by decide)) (by decide)
          have k2 : mulOk 69621 ((j : Int) + i) = true := mulOk_of (bits_c (n := 17) (by decide)) (bits_c (n := 10) (by omega)) (by decide)
          have m0 := Int.emod_nonneg (c * 48271 + 69621 * ((j : Int) + i) + 11) (show (2147483647 : Int) ≠ 0 by decide)
          have m1 := Int.emod_lt_of_pos (c * 48271 + 69621 * ((j : Int) + i) + 11) (show (0 : Int) < 2147483647 by decide)
          generalize hcc : (c * 48271 + 69621 * ((j : Int) + i) + 11) % 2147483647 = c2 at *
          have k3 : mulOk c2 16807 = true := mulOk_of (bits31 m0 m1) (bits_c (n := 15) (by decide)) (by decide)
          simp [k1, k2, hcc, k3]
          have hm0 := Int.emod_nonneg ((c2 * 16807 + c2 / 65536) % 2147483629) (show (1009 : Int) ≠ 0 by decide)
          have hm1 := Int.emod_lt_of_pos ((c2 * 16807 + c2 / 65536) % 2147483629) (show (0 : Int) < 1009 by decide)
          generalize hcm : (c2 * 16807 + c2 / 65536) % 2147483629 = cm at *
          obtain ⟨w, hw⟩ := Int.eq_ofNat_of_zero_le hm0
          rw [hw]
          refine ⟨divOk_small (by decide) (by decide), by omega, ?_⟩
          refine hJ2 _ ⟨l ++ [w], c2, some (.a (.int (j : Int))), some (.a (.int cm)), by simp [natD], m0, by omega, ?_, by simp; omega⟩
          intro x hx'
          rcases List.mem_append.mp hx' with q | q
          · exact hx x q
          · simp at q; subst q; omega
        · intro ρ h
          obtain ⟨l, c, v5, v6, hρ, h0, h1, hx, hll⟩ := h
          subst hρ
          rw [intL_len] at hll
          exact hJ _ ⟨l, _, _, _, _, _, rfl, hx, by omega⟩
    · intro ρ h
      obtain ⟨l, v2, v3, v4, v5, v6, hρ, hx, hll⟩ := h
      subst hρ
      rw [intL_len] at hll
      exact hK _ ⟨l, _, _, _, _, _, rfl, hx, by omega⟩
  · intro ρ h
    obtain ⟨l, v2, v3, v4, v5, v6, hρ, hx, hll⟩ := h
    subst hρ
    simp [ioOf]
    exact ⟨l, rfl, hx, hll⟩
theorem order_wf {st : D} (h : Nms st) (most : Nat) (hm : most ≤ 10) : WF NoE (fun d io => ∃ (n : Nat) (ps : List (Nat × Nat)), d = bldO n (clo n ps) ∧ n ≤ most ∧ Acyc n ps ∧ ∃ st', io = some st' ∧ Nms st') (F_law_order [st, .int most]) := by
  unfold F_law_order
  rw [wf_fn]
  unfold B_law_order
  refine wp_cutK (fun ρ => ∃ (st : D) (n : Nat), ρ = [some st, some (.a (.int (most : Int))), some (.a (.int (n : Int))), none, none, none, none, none, none, none, none] ∧ Nms st ∧ n ≤ most) (fun K hK => ?_) ?_
  · simp
    refine (next_wf h ((most : Int) + 1) (by omega)).mono ?_
    rintro d io ⟨v, rfl, v0, v1, st1, rfl, h1⟩
    obtain ⟨n, rfl⟩ := Int.eq_ofNat_of_zero_le v0
    simp
    exact hK _ ⟨st1, n, rfl, h1, by omega⟩
  · clear h st
    rintro ρ ⟨st, n, rfl, h, hn⟩
    refine wp_step fun K hK => ?_
    simp
    apply hK
    clear hK K
    refine wp_cutK (fun ρ => ρ = [some st, some (.a (.int (most : Int))), some (.a (.int (n : Int))), some (.n .lst true []), some (.n .lst true ((List.range n).map natD)), none, none, none, none, none, none]) (fun K hK => ?_) ?_
    · simp [intL_nat]
      refine ⟨by omega, ?_⟩
      rw [lcL_run (fun _ => true) (fun d => d)]
      · rw [wo_ok, List.filter_eq_self.mpr (fun _ _ => rfl), List.map_id']
        simp
        exact hK _ rfl
      · intro d hd
        obtain ⟨x, hx, rfl⟩ := List.mem_map.mp hd
        simp
    · rintro ρ rfl
      refine wp_cutK (fun ρ => ∃ (st : D) (xs : List Nat) (v5 : Option D), ρ = [some st, some (.a (.int (most : Int))), some (.a (.int (n : Int))), some (.n .lst false (xs.map natD)), some (.n .lst false []), v5, none, none, none, none, none] ∧ Nms st ∧ xs.Perm (List.range n)) (fun K hK => ?_) ?_
      · simp
        refine ⟨by omega, ?_⟩
        refine wp_forK (fun i ρ => ∃ (st : D) (le ou : List Nat) (v : Option D), ρ = [some st, some (.a (.int (most : Int))), some (.a (.int (n : Int))), some (.lst true (ou.map natD)), some (.lst true (le.map natD)), v, none, none, none, none, none] ∧ Nms st ∧ (le ++ ou).Perm (List.range n) ∧ ou.length = i) ⟨st, List.range n, [], none, rfl, h, by simp, rfl⟩ ?_ ?_
        · intro i d ρ hd h J hJ
          obtain ⟨st, le, ou, v, hρ, h1, h2, h3⟩ := h
          subst hρ
          have hi : i < n := by
            have := (List.getElem?_eq_some_iff.mp hd).1
            rw [intL_len] at this
            omega
          have hlen := h2.length_eq
          simp at hlen
          simp
          refine (next_wf h1 (le.length : Int) (by omega)).mono ?_
          rintro d io ⟨v, rfl, v0, v1, st', rfl, h4⟩
          have hj : v.toNat < le.length := by omega
          simp [seqIx_nat v0 v1, List.getElem?_eq_getElem hj]
          refine ⟨by omega, by omega, ?_⟩
          refine hJ _ ⟨st', le.eraseIdx v.toNat, ou ++ [le[v.toNat]], some d, ?_, h4, ?_, by simp [h3]⟩
          · simp [map_erase]
          · have p1 := perm_erase le v.toNat hj
            refine List.Perm.trans ?_ h2
            refine List.Perm.trans ?_ (p1.append_right ou)
            rw [← List.append_assoc]
            exact (List.perm_append_singleton _ _).trans (by simp)
        · intro ρ h
          obtain ⟨st, le, ou, v, hρ, h1, h2, h3⟩ := h
          subst hρ
          rw [intL_len] at h3
          have hlen := h2.length_eq
          simp at hlen
          have e : le = [] := List.eq_nil_of_length_eq_zero (by omega)
          subst e
          simp
          exact hK _ ⟨st, ou, v, rfl, h1, by simpa using h2⟩
      · rintro ρ ⟨st, xs, v5, rfl, h, hp⟩
        have nd : xs.Nodup := hp.symm.nodup_iff.mp List.nodup_range
        have hlx : xs.length = n := by simpa using hp.length_eq
        have hlt : ∀ x ∈ xs, x < n := fun x hx => by simpa using hp.mem_iff.mp hx
        refine wp_cutK (fun ρ => ∃ (st : D) (th : Int), 0 < th ∧ ρ = [some st, some (.a (.int (most : Int))), some (.a (.int (n : Int))), some (.n .lst false (xs.map natD)), some (.n .lst false []), v5, some (.a (.int th)), none, none, none, none] ∧ Nms st) (fun K hK => ?_) ?_
        · simp
          refine (next_wf h 3 (by decide)).mono ?_
          rintro d io ⟨v, rfl, v0, v1, st', rfl, h4⟩
          simp
          exact hK _ ⟨st', 2 + v, by omega, rfl, h4⟩
        · clear h st
          rintro ρ ⟨st, th, hth, rfl, h⟩
          refine wp_step fun K hK => ?_
          simp
          apply hK
          clear hK K
          refine wp_cutK (fun ρ => ∃ (st : D) (ps : List (Nat × Nat)) (v8 v9 : Option D), ρ = [some st, some (.a (.int (most : Int))), some (.a (.int (n : Int))), some (.n .lst false (xs.map natD)), some (.n .lst false []), v5, some (.a (.int th)), some (.n .lst false (ps.map prD)), v8, v9, none] ∧ Nms st ∧ Acyc n ps ∧ ps.length ≤ 10000) (fun K hK => ?_) ?_
          · simp
            refine ⟨by omega, ?_⟩
            refine wp_forK (fun i ρ => ∃ (st : D) (ps : List (Nat × Nat)) (v8 v9 : Option D), ρ = [some st, some (.a (.int (most : Int))), some (.a (.int (n : Int))), some (.n .lst false (xs.map natD)), some (.n .lst false []), v5, some (.a (.int th)), some (.lst true (ps.map prD)), v8, v9, none] ∧ Nms st ∧ PsOk n (fun v => xs.idxOf v) ps ∧ ps.length ≤ 100 * i) ⟨st, [], none, none, rfl, h, fun p hp => (nomatch hp), by simp⟩ ?_ ?_
            · intro i d ρ hd h J hJ
              obtain ⟨st, ps, v8, v9, hρ, h3, h4, h5⟩ := h
              subst hρ
              obtain ⟨rfl, hi⟩ := intL_get hd
              rw [show (0 : Int) + (i : Int) = i by omega]
              simp
              refine ⟨by omega, ?_⟩
              refine wp_forK (fun j ρ => ∃ (st : D) (ps : List (Nat × Nat)) (v9 : Option D), ρ = [some st, some (.a (.int (most : Int))), some (.a (.int (n : Int))), some (.n .lst false (xs.map natD)), some (.n .lst false []), v5, some (.a (.int th)), some (.lst true (ps.map prD)), some (.a (.int (i : Int))), v9, none] ∧ Nms st ∧ PsOk n (fun v => xs.idxOf v) ps ∧ ps.length ≤ 100 * i + j) ⟨st, ps, v9, rfl, h3, h4, by omega⟩ ?_ ?_
              · intro j d ρ hd h J2 hJ2
                obtain ⟨st, ps, v9, hρ, h3, h4, h5⟩ := h
                subst hρ
                obtain ⟨rfl, hj⟩ := intL_get hd
                rw [show (0 : Int) + (j : Int) = j by omega]
                have hi2 : i < xs.length := by omega
                have hj2 : j < xs.length := by omega
                have ixl : ∀ (x : Nat) (hx : x < xs.length) (P : D → Prop), SO (gIx (.n .lst false (xs.map natD)) (.a (.int (x : Int)))) P = P (natD xs[x]) := fun x hx P => by
                  unfold gIx
                  rw [ixL (d := natD xs[x]) (by rw [List.getElem?_map, List.getElem?_eq_getElem hx]; rfl)]
                  rfl
                simp
                refine (next_wf h3 th hth).mono ?_
                rintro d io ⟨v, rfl, v0, v1, st', rfl, h6⟩
                simp
                split
                · simp [ixl i hi2, ixl j hj2]
                  refine ⟨by omega, ?_⟩
                  refine hJ2 _ ⟨st', ps ++ [(xs[j], xs[i])], some (.a (.int (j : Int))), by simp [prD], h6, ?_, by simp; omega⟩
                  intro p hp
                  rcases List.mem_append.mp hp with hp | hp
                  · exact h4 p hp
                  · simp at hp
                    subst hp
                    refine ⟨hlt _ (List.getElem_mem _), hlt _ (List.getElem_mem _), ?_⟩
                    show List.idxOf xs[j] xs < List.idxOf xs[i] xs
                    rw [idxOf_get nd i hi2, idxOf_get nd j hj2]
                    omega
                · exact hJ2 _ ⟨st', ps, some (.a (.int (j : Int))), rfl, h6, h4, by omega⟩
              · intro ρ h
                obtain ⟨st, ps, v9, hρ, h3, h4, h5⟩ := h
                subst hρ
                rw [intL_len] at h5
                exact hJ _ ⟨st, ps, _, _, rfl, h3, h4, by omega⟩
            · intro ρ h
              obtain ⟨st, ps, v8, v9, hρ, h3, h4, h5⟩ := h
              subst hρ
              rw [intL_len] at h5
              simp
              exact hK _ ⟨st, ps, _, _, rfl, h3, ⟨_, h4⟩, by omega⟩
          · rintro ρ ⟨st, ps, v8, v9, rfl, h3, hac, hlen⟩
            have hmk := mk_of (k := .lst) (T := clo n ps) (.inl rfl) hac.bd (fun a b _ _ => rfl) (acyc_irr hac) (show n ≤ 10 by omega) (by omega)
            simp [ioOf, hmk]
            exact ⟨n, ps, ⟨rfl, rfl⟩, hn, hac, h3⟩
end DC
namespace DC
open PySem L2 DL
def tupN (l : List Nat) : D := .n .tup false (l.map natD)
@[simp] theorem isF_tupN {l : List Nat} : isF (tupN l) = true := by unfold tupN; simp
@[simp] theorem frz_tupN {l : List Nat} : frz (tupN l) = tupN l := frz_isF _ isF_tupN
def ascN (n : Nat) : Nat → List Nat → Bool
  | _, [] => true
  | lo, x :: l => decide (lo ≤ x) && (decide (x < n) && ascN n (x + 1) l)
theorem ascN_lt {n : Nat} : ∀ {l : List Nat} {lo : Nat}, ascN n lo l = true → ∀ x ∈ l, x < n
  | [], _, _, x, hx => by simp at hx
  | y :: l, lo, h, x, hx => by
    unfold ascN at h
    rw [Bool.and_eq_true, Bool.and_eq_true] at h
    rcases List.mem_cons.mp hx with rfl | hx
    · exact of_decide_eq_true h.2.1
    · exact ascN_lt h.2.2 x hx
theorem asIns_ord' {n : Nat} {T : Tb} {P : Str → List Str → List D → Prop} : asIns (ordT n T) P = P "Order" ["n", "above"] [.a (.int (n : Int)), .n .tup false (vec n (mrow n T))] := rfl
theorem setm_bit {l : List Nat} {y : Nat} : (setm l).testBit y = decide (y ∈ l) := by
  have key : ∀ (l : List Nat) (m : Nat), (l.foldl (fun m z => m ||| 2 ^ z) m).testBit y = (m.testBit y || decide (y ∈ l)) := by
    intro l
    induction l with
    | nil => intro m; simp
    | cons x l ih =>
      intro m
      rw [List.foldl_cons, ih, Nat.testBit_or, Nat.testBit_two_pow]
      by_cases e : x = y
      · subst e; simp
      · have e2 : ¬ y = x := fun q => e q.symm
        simp [e, e2]
  unfold setm
  rw [key]
  simp
def fits (T : Tb) (r : Bool) (l : List Nat) : Bool := l.all fun x => l.all fun y => decide (x = y) || ((T x y || T y x) == r)
end DC
namespace DC
open PySem L2 DL
def cov (n : Nat) (Ps : List (List Nat)) : Bool := (Ps.all fun p => ascN n 0 p && !p.isEmpty) && decide (sortI (Ps.flatten.map fun (d : Nat) => (d : Int)) = (List.range n).map fun (d : Nat) => (d : Int))
def parD (Ps : List (List Nat)) : D := .n .tup false (Ps.map tupN)
@[simp] theorem isF_parD {Ps : List (List Nat)} : isF (parD Ps) = true := by
  unfold parD
  rw [isF_n, isFL_map fun _ => isF_tupN]
  rfl
@[simp] theorem frz_parD {Ps : List (List Nat)} : frz (parD Ps) = parD Ps := frz_isF _ isF_parD
theorem par_get {Ps : List (List Nat)} {i : Nat} {d : D} (h : (Ps.map tupN)[i]? = some d) : ∃ p, Ps[i]? = some p ∧ d = tupN p := by
  rw [List.getElem?_map] at h
  cases e : Ps[i]? with
  | none => rw [e] at h; cases h
  | some p => rw [e] at h; cases h; exact ⟨p, rfl, rfl⟩
def natsOf : D → List Nat
  | .n _ _ xs => xs.map natOf
  | _ => []
@[simp] theorem natsOf_tupN {l : List Nat} : natsOf (tupN l) = l := by
  show (l.map natD).map natOf = l
  rw [List.map_map]
  exact List.map_id' l
theorem blsOf_map {α : Type} {f : α → Bool} : ∀ l : List α, blsOf (l.map fun x => D.a (.bl (f x))) = some (l.map f)
  | [] => rfl
  | x :: l => by
    rw [List.map_cons, List.map_cons]
    unfold blsOf
    rw [blsOf_map l]
    rfl
theorem o_allL {α : Type} {o : Bool} {l : List α} {f : α → Bool} {P : D → Prop} : SO (gAll (.n .lst o (l.map fun x => .a (.bl (f x))))) P = P (.a (.bl (l.all f))) := by
  unfold gAll
  dsimp only
  rw [blsOf_map]
  simp [List.all_map]
end DC
namespace DC
open PySem L2 DL
end DC
namespace DC
open PySem L2 DL
end DC
namespace DC
open PySem L2 DL
abbrev Fi : Type := Nat → Nat → Int
def Sup (n : Nat) (T : Tb) (f : Fi) : Prop := ∀ x y, x < n → y < n → f x y ≠ 0 → x = y ∨ T x y = true
end DC
namespace DC
open PySem L2 DL
def oneF : Fi := fun x y => if x = y then 1 else 0
theorem mulOk_b {a b : Int} (ha : a.natAbs < 1000000) (hb : b.natAbs < 1000000) : mulOk a b = true := mulOk_of (bits_c (n := 20) (by omega)) (bits_c (n := 20) (by omega)) (by decide)
end DC
namespace DC
open PySem L2 DL
theorem src_rng {ρ : DL.Env} {f : DL.Env → Out D} {n : Nat} (h : f ρ = .ok (.a (.int (n : Int))) ρ) (hn : n ≤ 1000) : dRng1 f ρ = .ok (vec n fun i => .a (.int (i : Int))) ρ := by
  apply out_eq
  rw [w_Rng1, h]
  simp [intL_vec]
  omega
theorem var_eq {ρ : DL.Env} {i : Nat} {d : D} (h : ρ[i]? = some (some d)) (hf : isF d = true) : dVar i ρ = .ok d ρ := by
  apply out_eq
  simp [h, hf]
end DC
namespace DC
open PySem L2 DL
structure RowOk (n : Nat) (T : Tb) (x : Nat) (r : Nat → Int) : Prop where
  bd : ∀ y, y < n → (r y).natAbs ≤ 2
  su : ∀ y, y < n → r y ≠ 0 → x = y ∨ T x y = true
  dg : x < n → r x = 1 ∨ r x = -1
theorem sum_succ {g : Nat → Int} {i : Nat} : ((List.range (i + 1)).map g).sum = ((List.range i).map g).sum + g i := by
  rw [List.range_succ, List.map_append, List.sum_append]
  simp
end DC
namespace DC
open PySem L2 DL
theorem anyEq_int {z : Int} : ∀ {l : List Int}, anyEq (.a (.int z)) (l.map D.int) = decide (z ∈ l)
  | [] => by simp [anyEq]
  | y :: l => by
    rw [List.map_cons]
    unfold anyEq
    rw [anyEq_int (l := l)]
    have : eqD (.a (.int y)) (.a (.int z)) = decide (y = z) := by
      show eqA (.int y) (.int z) = _
      simp [eqA]
      rw [Bool.eq_iff_iff]; simp
    rw [this]
    by_cases e : y = z
    · simp [e]
    · have e2 : ¬ z = y := fun h => e h.symm
      simp [e, e2]
theorem pDL_int {m : Nat} : ∀ {l : List Int}, pDL m (l.map D.int) = true
  | [] => rfl
  | y :: l => by
    show (pD m (.a (.int y)) && pDL m (l.map D.int)) = true
    rw [pDL_int (l := l)]
    rfl
theorem gInB_ints {k : Kd} (hk : k = .lst ∨ k = .tup) {z : Int} {o : Bool} {l : List Int} : gInB (.a (.int z)) (.n k o (l.map D.int)) = some (decide (z ∈ l)) := by
  rcases hk with rfl | rfl
  · show (if pD 60 (.a (.int z)) = true ∧ pDL 60 (l.map D.int) = true then some (anyEq (.a (.int z)) (l.map D.int)) else none) = _
    rw [pDL_int, anyEq_int]
    rfl
  · have : (l.map D.int).all isA = true := by simp [List.all_map, isA]
    unfold gInB
    dsimp only
    rw [if_pos ⟨rfl, this⟩, anyEq_int]
theorem o_notinI {k : Kd} (hk : k = .lst ∨ k = .tup) {z : Int} {o : Bool} {l : List Int} {P : D → Prop} : SO (gNotIn (.a (.int z)) (.n k o (l.map D.int))) P = P (.a (.bl (!decide (z ∈ l)))) := by
  unfold gNotIn
  rw [gInB_ints hk]
  rfl
theorem natD_int (l : List Nat) : l.map natD = (l.map fun (n : Nat) => (n : Int)).map D.int := by
  rw [List.map_map]; rfl
theorem mem_nat {z : Nat} {l : List Nat} : ((z : Int) ∈ l.map fun (n : Nat) => (n : Int)) ↔ z ∈ l := by
  rw [List.mem_map]
  constructor
  · rintro ⟨a, ha, e⟩
    have : a = z := by omega
    subst this; exact ha
  · intro h; exact ⟨z, h, rfl⟩
theorem o_notinN {k : Kd} (hk : k = .lst ∨ k = .tup) {z : Nat} {o : Bool} {l : List Nat} {P : D → Prop} : SO (gNotIn (.a (.int (z : Int))) (.n k o (l.map natD))) P = P (.a (.bl (!decide (z ∈ l)))) := by
  rw [natD_int, o_notinI hk]
  rw [decide_eq_decide.mpr mem_nat]
theorem minimal_ex {n : Nat} {T : Tb} (tT : Tr n T) (iT : Irr n T) : ∀ {r : List Nat}, (∀ z ∈ r, z < n) → r ≠ [] → ∃ m ∈ r, ∀ z ∈ r, T z m = false
  | [], _, h => absurd rfl h
  | [a], hb, _ => ⟨a, by simp, fun z hz => by
      have : z = a := by simpa using hz
      subst this; exact iT z (hb z (by simp))⟩
  | a :: b :: r, hb, _ => by
    obtain ⟨m, hm, hmin⟩ := minimal_ex tT iT (r := b :: r) (fun z hz => hb z (by simp [hz])) (by simp)
    cases h : T a m with
    | false =>
      refine ⟨m, by simp [hm], fun z hz => ?_⟩
      rcases List.mem_cons.mp hz with rfl | hz
      · exact h
      · exact hmin z hz
    | true =>
      refine ⟨a, by simp, fun z hz => ?_⟩
      rcases List.mem_cons.mp hz with rfl | hz
      · exact iT z (hb z (by simp))
      · cases h2 : T z a with
        | false => rfl
        | true =>
          have := tT z a m (hb z (by simp [hz])) (hb a (by simp)) (hb m (List.mem_cons_of_mem _ hm)) h2 h
          rw [hmin z hz] at this
          cases this
structure UpL (n : Nat) (T : Tb) (x : Nat) (l : List Nat) : Prop where
  nd : l.Nodup
  hd : l[0]? = some x
  up : ∀ y ∈ l, y = x ∨ (y < n ∧ T x y = true)
  bh : ∀ (i y : Nat), l[i]? = some y → ∀ z, z < n → T z y = true → T x z = true → z ∈ l.take i
theorem frzL_natD {l : List Nat} : frzL (l.map natD) = l.map natD := frzL_map fun _ => rfl
end DC
namespace DC
open PySem L2 DL
def Sm (n : Nat) (f : Nat → Int) : Int := ((List.range n).map f).sum
theorem Sm_zero {f : Nat → Int} : Sm 0 f = 0 := rfl
theorem Sm_succ {n : Nat} {f : Nat → Int} : Sm (n + 1) f = Sm n f + f n := sum_succ
theorem Sm_congr {n : Nat} {f g : Nat → Int} (h : ∀ i, i < n → f i = g i) : Sm n f = Sm n g := by
  unfold Sm
  congr 1
  exact List.map_congr_left fun i hi => h i (List.mem_range.mp hi)
theorem Sm_add {f g : Nat → Int} : ∀ {n : Nat}, Sm n (fun i => f i + g i) = Sm n f + Sm n g
  | 0 => rfl
  | n + 1 => by rw [Sm_succ, Sm_succ, Sm_succ, Sm_add]; omega
theorem Sm_mulL {a : Int} {f : Nat → Int} : ∀ {n : Nat}, Sm n (fun i => a * f i) = a * Sm n f
  | 0 => by simp [Sm_zero]
  | n + 1 => by rw [Sm_succ, Sm_succ, Sm_mulL, Int.mul_add]
theorem Sm_zeros {n : Nat} {f : Nat → Int} (h : ∀ i, i < n → f i = 0) : Sm n f = 0 := by
  rw [Sm_congr (g := fun _ => 0) h]
  induction n with
  | zero => rfl
  | succ n ih => rw [Sm_succ, ih fun i hi => h i (by omega)]; rfl
theorem Sm_comm {f : Nat → Nat → Int} {m : Nat} : ∀ {n : Nat}, Sm n (fun i => Sm m (f i)) = Sm m (fun j => Sm n fun i => f i j)
  | 0 => by rw [Sm_zero]; exact (Sm_zeros fun _ _ => rfl).symm
  | n + 1 => by
    rw [Sm_succ, Sm_comm, ← Sm_add]
    exact Sm_congr fun j _ => Sm_succ.symm
theorem Sm_pick {n c : Nat} {f : Nat → Int} (hc : c < n) (h : ∀ i, i < n → i ≠ c → f i = 0) : Sm n f = f c := by
  induction n with
  | zero => omega
  | succ n ih =>
    rw [Sm_succ]
    by_cases e : c = n
    · subst e
      rw [Sm_zeros fun i hi => h i (by omega) (by omega)]
      omega
    · rw [ih (by omega) fun i hi => h i (by omega), h n (by omega) (Ne.symm e)]
      omega
theorem Sm_set {n c : Nat} {f g : Nat → Int} (hc : c < n) (h : ∀ i, i < n → i ≠ c → g i = f i) : Sm n g = Sm n f + (g c - f c) := by
  have e : Sm n g = Sm n (fun i => f i + (g i - f i)) := Sm_congr fun i _ => by omega
  rw [e, Sm_add, Sm_pick (f := fun i => g i - f i) hc fun i hi hne => by rw [h i hi hne]; omega]
theorem Sm_abs {f : Nat → Int} : ∀ {n : Nat}, (Sm n f).natAbs ≤ (Sm n fun i => (f i).natAbs).toNat
  | 0 => by simp [Sm_zero]
  | n + 1 => by
    have ih := Sm_abs (f := f) (n := n)
    have hp : ∀ n, 0 ≤ Sm n fun i => ((f i).natAbs : Int) := fun n => by
      induction n with
      | zero => simp [Sm_zero]
      | succ n ih => rw [Sm_succ]; omega
    rw [Sm_succ, Sm_succ]
    have h1 := hp n
    omega
theorem Sm_le {f g : Nat → Int} : ∀ {n : Nat}, (∀ i, i < n → f i ≤ g i) → Sm n f ≤ Sm n g
  | 0, _ => by simp [Sm_zero]
  | n + 1, h => by
    rw [Sm_succ, Sm_succ]
    have := Sm_le (n := n) fun i hi => h i (by omega)
    have := h n (by omega)
    omega
theorem Sm_nonneg {f : Nat → Int} {n : Nat} (h : ∀ i, i < n → 0 ≤ f i) : 0 ≤ Sm n f := by
  have := Sm_le (f := fun _ => 0) h
  rw [Sm_zeros fun _ _ => rfl] at this
  exact this
theorem Sm_one {f : Nat → Int} {n c : Nat} (hc : c < n) (h : ∀ i, i < n → 0 ≤ f i) : f c ≤ Sm n f := by
  have := Sm_le (n := n) (f := fun i => if i = c then f c else 0) (g := f) fun i hi => by
    by_cases e : i = c
    · subst e; simp
    · simp [e]; exact h i hi
  rw [Sm_pick hc (fun i _ hne => by simp [hne])] at this
  simpa using this
theorem filter_lt {p q : Nat → Bool} : ∀ {l : List Nat}, (∀ z ∈ l, p z = true → q z = true) → (∃ z ∈ l, q z = true ∧ p z = false) → (l.filter p).length < (l.filter q).length
  | [], _, ⟨z, hz, _⟩ => by cases hz
  | a :: l, h, ⟨z, hz, h1, h2⟩ => by
    have hsub : ∀ {l : List Nat}, (∀ z ∈ l, p z = true → q z = true) → (l.filter p).length ≤ (l.filter q).length := fun {l} h => by
      induction l with
      | nil => simp
      | cons b l ih =>
        have i1 := ih fun z hz => h z (by simp [hz])
        have i2 := h b (by simp)
        cases hp : p b with
        | true => simp [hp, i2 hp]; exact i1
        | false =>
          cases hq : q b <;> simp [hp, hq] <;> omega
    rcases List.mem_cons.mp hz with rfl | hz
    · have := hsub fun z hz => h z (List.mem_cons_of_mem _ hz)
      simp [h1, h2]
      omega
    · have ih := filter_lt (fun z hz => h z (List.mem_cons_of_mem _ hz)) ⟨z, hz, h1, h2⟩
      have i2 := h a (by simp)
      cases hp : p a with
      | true => simp [hp, i2 hp]; exact ih
      | false =>
        cases hq : q a <;> simp [hp, hq] <;> omega
end DC
namespace DC
open PySem L2 DL
theorem intsOf_map {α : Type} {f : α → Int} : ∀ l : List α, intsOf (l.map fun x => D.a (.int (f x))) = some (l.map f)
  | [] => rfl
  | x :: l => by
    rw [List.map_cons, List.map_cons]
    unfold intsOf
    rw [intsOf_map l]
    rfl
theorem o_sumL {α : Type} {o : Bool} {l : List α} {f : α → Int} {P : D → Prop} : SO (gSum (.n .lst o (l.map fun x => .a (.int (f x))))) P = P (.a (.int (l.map f).sum)) := by
  unfold gSum
  dsimp only
  rw [intsOf_map]
  rfl
theorem sum_filter {tb : Nat → Bool} {f : Nat → Int} : ∀ n : Nat, (((List.range n).filter tb).map f).sum = Sm n fun i => if tb i = true then f i else 0
  | 0 => rfl
  | n + 1 => by
    rw [List.range_succ, List.filter_append, List.map_append, List.sum_append, sum_filter n, Sm_succ]
    cases h : tb n <;> simp [h]
theorem w_sumF {E : Exn → DL.Env → Prop} {P : D → DL.Env → Prop} {ρ : DL.Env} {v n : Nat} {src : DL.Env → Out (List D)} {t : DL.Env → Out Bool} {f : DL.Env → Out D} (tb : Nat → Bool) (fb : Nat → Int) (hv : ∀ d, ρ[v]? = some (some d) → isF d = true) (hl : v < ρ.length) (hsrc : src ρ = .ok (vec n fun i => .a (.int (i : Int))) ρ) (hn : n ≤ 1000000)
    (ht : ∀ i, i < n → t (ρ.set v (some (.a (.int (i : Int))))) = .ok (tb i) (ρ.set v (some (.a (.int (i : Int))))))
    (hf : ∀ i, i < n → tb i = true → f (ρ.set v (some (.a (.int (i : Int))))) = .ok (.a (.int (fb i))) (ρ.set v (some (.a (.int (i : Int))))))
    (k : P (.a (.int (Sm n fun i => if tb i = true then fb i else 0))) ρ) : WO E P (dU gSum (dLc [v] src (tg1 v) t f) ρ) := by
  rw [w_U, w_lcF (fun d => tb (natOf d)) (fun d => .a (.int (fb (natOf d)))) hv hl hsrc (by rw [vec_len]; exact hn)]
  · have e : ((vec n fun i => D.a (.int (i : Int))).filter fun d => tb (natOf d)).map (fun d => D.a (.int (fb (natOf d)))) = ((List.range n).filter tb).map fun i => D.a (.int (fb i)) := by
      unfold vec
      rw [List.filter_map, List.map_map]
      rfl
    rw [e, o_sumL, sum_filter]
    exact k
  · intro d hd
    obtain ⟨i, hi, rfl⟩ := mem_vec hd
    exact ht i hi
  · intro d hd h
    obtain ⟨i, hi, rfl⟩ := mem_vec hd
    exact hf i hi h
def bnd3 (i : Nat) : Int := if i = 0 then 0 else ((3 ^ (i - 1) : Nat) : Int)
structure RowP (n : Nat) (T : Tb) (f : Fi) (x : Nat) (l : List Nat) (r : Nat → Int) : Prop where
  su : ∀ y, y < n → r y ≠ 0 → y ∈ l
  dg : l ≠ [] → r x = f x x
  eq : ∀ y ∈ l, Sm n (fun z => r z * f z y) = oneF x y
  bd : Sm n (fun z => ((r z).natAbs : Int)) ≤ bnd3 l.length
structure RowD (n : Nat) (T : Tb) (f : Fi) (x : Nat) (r : Nat → Int) : Prop where
  su : ∀ y, y < n → r y ≠ 0 → x = y ∨ T x y = true
  dg : r x = f x x
  eq : ∀ y, y < n → Sm n (fun z => r z * f z y) = oneF x y
  bd : ∀ y, y < n → (r y).natAbs < 1000000
theorem RowP.done {n x : Nat} {T : Tb} {f : Fi} {l : List Nat} {r : Nat → Int} (hn : n ≤ 10) (tT : Tr n T) (hx : x < n) (hs : Sup n T f) (hl : UpL n T x l) (hall : ∀ y, y < n → T x y = true → y ∈ l) (h : RowP n T f x l r) : RowD n T f x r where
  su := fun y hy h0 => (hl.up y (h.su y hy h0)).imp Eq.symm fun q => q.2
  dg := h.dg fun e => by have := hl.hd; rw [e] at this; cases this
  eq := fun y hy => by
    by_cases q : y ∈ l
    · exact h.eq y q
    · have hxl : x ∈ l := List.mem_of_getElem? hl.hd
      have hne : x ≠ y := fun e => q (e ▸ hxl)
      rw [Sm_zeros fun z hz => ?_]
      · simp [oneF, hne]
      · by_cases h1 : r z = 0
        · rw [h1]; simp
        · by_cases h2 : f z y = 0
          · rw [h2]; simp
          · exfalso
            apply q
            have hz1 := hl.up z (h.su z hz h1)
            have hz2 := hs z y hz hy h2
            rcases hz1 with e1 | e1
            · subst e1
              rcases hz2 with e2 | e2
              · exact absurd e2 hne
              · exact hall y hy e2
            · rcases hz2 with e2 | e2
              · subst e2; exact hall z hy e1.2
              · exact hall y hy (tT x z y hx hz hy e1.2 e2)
  bd := fun y hy => by
    have h1 := Sm_one (f := fun z => ((r z).natAbs : Int)) hy fun i _ => by omega
    have h2 := h.bd
    have hll : l.length ≤ n := by
      have hsub : ∀ w ∈ l, w ∈ List.range n := fun w hw => List.mem_range.mpr (by
        rcases hl.up w hw with e | e <;> omega)
      have := hl.nd.length_le_of_subset hsub
      simpa using this
    have h3 : bnd3 l.length ≤ 19683 := by
      unfold bnd3
      split
      · omega
      · have : 3 ^ (l.length - 1) ≤ 3 ^ 9 := Nat.pow_le_pow_right (by decide) (by omega)
        have e9 : (3 : Nat) ^ 9 = 19683 := by decide
        omega
    omega
theorem RowP.first {n x : Nat} {T : Tb} {f : Fi} {r r' : Nat → Int} (hx : x < n) (hd : f x x = 1 ∨ f x x = -1) (h : RowP n T f x [] r) (h1 : r' x = f x x) (h2 : ∀ z, z ≠ x → r' z = r z) : RowP n T f x [x] r' := by
  have r0 : ∀ z, z < n → z ≠ x → r' z = 0 := fun z hz hne => by
    rw [h2 z hne]
    false_or_by_contra
    rename_i q
    exact absurd (h.su z hz q) (by simp)
  refine ⟨fun y hy h0 => ?_, fun _ => h1, fun y hy => ?_, ?_⟩
  · by_cases e : y = x
    · simp [e]
    · exact absurd (r0 y hy e) h0
  · have : y = x := by simpa using hy
    subst this
    rw [Sm_pick hx fun z hz hne => by rw [r0 z hz hne]; simp, h1]
    simp [oneF]
    rcases hd with e | e <;> rw [e] <;> rfl
  · rw [Sm_pick hx fun z hz hne => by rw [r0 z hz hne]; simp, h1]
    rcases hd with e | e <;> rw [e] <;> simp [bnd3]
theorem RowP.next {n x y i : Nat} {T : Tb} {f : Fi} {l : List Nat} {r r' : Nat → Int} (tT : Tr n T) (hs : Sup n T f) (af : ∀ x y, x < n → y < n → (f x y).natAbs ≤ 2) (hx : x < n) (hl : UpL n T x l) (hi : l[i]? = some y) (hi0 : 0 < i) (hd : f y y = 1 ∨ f y y = -1) (h : RowP n T f x (l.take i) r)
    (h1 : r' y = -(Sm n fun z => if (!decide (z = y)) = true then r z * f z y else 0) * f y y) (h2 : ∀ z, z ≠ y → r' z = r z) : RowP n T f x (l.take (i + 1)) r' := by
  have hil := (List.getElem?_eq_some_iff.mp hi).1
  have ht : l.take (i + 1) = l.take i ++ [y] := by rw [List.take_succ, hi]; rfl
  have hnd : (l.take (i + 1)).Nodup := (List.take_sublist _ _).nodup hl.nd
  rw [ht, List.nodup_append] at hnd
  have hyt : y ∉ l.take i := fun q => hnd.2.2 y q y (by simp) rfl
  have hxt : x ∈ l.take i := by
    have h0 := hl.hd
    have : (l.take i)[0]? = some x := by rw [List.getElem?_take_of_lt hi0]; exact h0
    exact List.mem_of_getElem? this
  have hne : x ≠ y := fun e => hyt (e ▸ hxt)
  have hyn : y < n ∧ T x y = true := by
    rcases hl.up y (List.mem_of_getElem? hi) with e | e
    · exact absurd e.symm hne
    · exact e
  have ry : r y = 0 := by
    false_or_by_contra
    rename_i q
    exact hyt (h.su y hyn.1 q)
  have tot : (Sm n fun z => if (!decide (z = y)) = true then r z * f z y else 0) = Sm n fun z => r z * f z y := Sm_congr fun z _ => by
    by_cases e : z = y
    · subst e; simp [ry]
    · simp [e]
  rw [tot] at h1
  refine ⟨fun w hw h0 => ?_, fun _ => ?_, fun w hw => ?_, ?_⟩
  · rw [ht]
    by_cases e : w = y
    · simp [e]
    · rw [h2 w e] at h0
      simp [h.su w hw h0]
  · rw [h2 x hne]
    exact h.dg fun e => by rw [e] at hxt; cases hxt
  · rw [ht] at hw
    rw [Sm_set (f := fun z => r z * f z w) (c := y) hyn.1 fun z _ hz => by rw [h2 z hz]]
    rcases List.mem_append.mp hw with q | q
    · rw [h.eq w q]
      have f0 : f y w = 0 := by
        false_or_by_contra
        rename_i q0
        obtain ⟨j, hj⟩ := List.mem_iff_getElem?.mp q
        have hji : j < i := by
          have := (List.getElem?_eq_some_iff.mp hj).1
          simp at this
          omega
        rw [List.getElem?_take_of_lt hji] at hj
        have hwn : w < n := by
          rcases hl.up w (List.mem_of_getElem? hj) with e | e
          · subst e; exact hx
          · exact e.1
        rcases hs y w hyn.1 hwn q0 with e | e
        · subst e; exact hyt q
        · have := hl.bh j w hj y hyn.1 e hyn.2
          have : y ∈ l.take i := (List.take_subset_take_left l (Nat.le_of_lt hji)) this
          exact hyt this
      rw [f0]
      simp
    · have : w = y := by simpa using q
      subst this
      rw [h1, ry]
      have e1 : oneF x w = 0 := by simp [oneF, hne]
      rw [e1]
      generalize (Sm n fun z => r z * f z w) = t
      rcases hd with e | e <;> rw [e] <;> omega
  · have hb := h.bd
    rw [Sm_set (f := fun z => ((r z).natAbs : Int)) (c := y) hyn.1 fun z _ hz => by rw [h2 z hz], ry]
    have h3 : ((r' y).natAbs : Int) ≤ 2 * Sm n fun z => ((r z).natAbs : Int) := by
      have h4 : (Sm n fun z => r z * f z y).natAbs ≤ (Sm n fun z => ((r z * f z y).natAbs : Int)).toNat := Sm_abs
      have h5 : (Sm n fun z => ((r z * f z y).natAbs : Int)) ≤ Sm n fun z => 2 * ((r z).natAbs : Int) := Sm_le fun z hz => by
        have := af z y hz hyn.1
        rw [Int.natAbs_mul]
        have := Nat.mul_le_mul_left (r z).natAbs this
        omega
      rw [Sm_mulL] at h5
      have h6 : 0 ≤ Sm n fun z => ((r z * f z y).natAbs : Int) := Sm_nonneg fun _ _ => by omega
      have h7 : (r' y).natAbs = (Sm n fun z => r z * f z y).natAbs := by
        rw [h1]
        rcases hd with e | e <;> rw [e] <;> omega
      omega
    have h8 : bnd3 (l.take (i + 1)).length = 3 * bnd3 (l.take i).length := by
      have e1 : (l.take (i + 1)).length = i + 1 := by simp; omega
      have e2 : (l.take i).length = i := by simp; omega
      rw [e1, e2]
      unfold bnd3
      rw [if_neg (by omega), if_neg (by omega)]
      have : i = (i - 1) + 1 := by omega
      have e3 : 3 ^ (i + 1 - 1) = 3 * 3 ^ (i - 1) := by
        rw [Nat.add_sub_cancel]
        conv => lhs; rw [this, Nat.pow_succ]
        omega
      rw [e3]
      omega
    rw [h8]
    omega
end DC
namespace DC
open PySem L2 DL
def cc (n : Nat) (T : Tb) : Nat → Nat → Nat → Nat → Int
  | 0, _, _, _ => 0
  | m + 1, x, y, k => if x = y then (if k = 1 then 1 else 0) else if k = 0 then 0 else Sm n fun z => if T x z = true ∧ (z = y ∨ T z y = true) then cc n T m z y (k - 1) else 0
end DC
namespace DC
open PySem L2 DL
def sets : Nat → List (List Nat)
  | 0 => [[]]
  | n + 1 => sets n ++ (sets n).map (· ++ [n])
end DC
namespace DC
open PySem L2 DL
def ky (x : Nat) : Key := .inl (x : Int)
theorem ky_inj {x y : Nat} : ky x = ky y ↔ x = y := by
  unfold ky
  constructor
  · intro h
    have : (x : Int) = y := by injection h
    omega
  · rintro rfl; rfl
def dctN (o : Bool) (dom : List Nat) (f : Nat → D) : D := .n (.dct (dom.map ky)) o (dom.map f)
theorem dctAt_N {f : Nat → D} {x : Nat} : ∀ {dom : List Nat}, dctAt (dom.map ky) (dom.map f) (ky x) = if x ∈ dom then some (f x) else none
  | [] => by simp [dctAt]
  | y :: dom => by
    rw [List.map_cons, List.map_cons]
    unfold dctAt
    rw [dctAt_N (dom := dom)]
    by_cases e : y = x
    · subst e; simp
    · have : ¬ ky y = ky x := fun h => e (ky_inj.mp h)
      have e2 : ¬ x = y := fun h => e h.symm
      simp [this, e2]
theorem hasK_N {x : Nat} : ∀ {dom : List Nat}, hasK (ky x) (dom.map ky) = decide (x ∈ dom)
  | [] => by simp [hasK]
  | y :: dom => by
    rw [List.map_cons]
    unfold hasK
    rw [hasK_N (dom := dom)]
    by_cases e : y = x
    · subst e; simp
    · have : ¬ ky y = ky x := fun h => e (ky_inj.mp h)
      have e2 : ¬ x = y := fun h => e h.symm
      simp [this, e2]
def addN (x : Nat) (dom : List Nat) : List Nat := if x ∈ dom then dom else dom ++ [x]
def updN {α : Type} (x : Nat) (d : α) (f : Nat → α) : Nat → α := fun j => if j = x then d else f j
theorem putKs_N {x : Nat} {dom : List Nat} : putKs (dom.map ky) (ky x) = (addN x dom).map ky := by
  unfold putKs addN
  rw [hasK_N]
  by_cases e : x ∈ dom <;> simp [e]
theorem putR_N {f : Nat → D} {x : Nat} {d : D} : ∀ {dom : List Nat}, putR (dom.map ky) (dom.map f) (ky x) d = dom.map (updN x d f)
  | [] => rfl
  | y :: dom => by
    rw [List.map_cons, List.map_cons]
    unfold putR
    rw [putR_N (dom := dom), List.map_cons]
    congr 1
    unfold updN
    by_cases e : y = x
    · subst e; simp
    · have : ¬ ky y = ky x := fun h => e (ky_inj.mp h)
      simp [e, this]
theorem putXs_N {f : Nat → D} {x : Nat} {d : D} {dom : List Nat} : putXs (dom.map ky) (dom.map f) (ky x) d = (addN x dom).map (updN x d f) := by
  unfold putXs addN
  rw [hasK_N]
  by_cases e : x ∈ dom
  · rw [if_pos (by simp [e]), if_pos e]
    exact putR_N
  · rw [if_neg (by simp [e]), if_neg e, List.map_append]
    congr 1
    · exact List.map_congr_left fun y hy => by
        have hne : ¬ y = x := fun h => e (by rw [← h]; exact hy)
        simp [updN, hne]
    · simp [updN]
theorem asKey_natD {x : Nat} {P : Key → Prop} : asKey (natD x) P = P (ky x) := rfl
theorem asDct_N {o : Bool} {dom : List Nat} {f : Nat → D} {P : List Key → Bool → List D → Prop} : asDct (dctN o dom f) P = P (dom.map ky) o (dom.map f) := rfl
theorem foldl_max : ∀ (l : List Int) (a : Int), a ≤ l.foldl max a ∧ (∀ y ∈ l, y ≤ l.foldl max a) ∧ (l.foldl max a = a ∨ l.foldl max a ∈ l)
  | [], a => ⟨Int.le_refl _, fun y hy => (by cases hy), .inl rfl⟩
  | x :: l, a => by
    rw [List.foldl_cons]
    obtain ⟨h1, h2, h3⟩ := foldl_max l (max a x)
    refine ⟨by omega, fun y hy => ?_, ?_⟩
    · rcases List.mem_cons.mp hy with rfl | hy
      · omega
      · exact h2 y hy
    · rcases h3 with e | e
      · rw [e]
        by_cases q : a ≤ x
        · exact .inr (by rw [Int.max_eq_right q]; simp)
        · exact .inl (Int.max_eq_left (by omega))
      · exact .inr (by simp [e])
theorem max1_eq {o : Bool} {a : Int} {l : List Int} {P : D → Prop} : SO (gMax1 (.n .lst o ((a :: l).map D.int))) P = P (.a (.int (l.foldl max a))) := by
  unfold gMax1
  dsimp only
  rw [intsOf_map (f := fun x : Int => x)]
  dsimp only
  rw [List.map_id', List.max?_cons']
  rfl
theorem w_lcN {E : Exn → DL.Env → Prop} {P : D → DL.Env → Prop} {ρ : DL.Env} {v : Nat} {l : List Nat} {src : DL.Env → Out (List D)} {f : DL.Env → Out D} (fv : Nat → D) (hv : ∀ d, ρ[v]? = some (some d) → isF d = true) (hl : v < ρ.length) (hsrc : src ρ = .ok (l.map natD) ρ) (hc : l.length ≤ 1000000)
    (hf : ∀ x ∈ l, f (ρ.set v (some (natD x))) = .ok (fv x) (ρ.set v (some (natD x)))) (k : P (.lst true (l.map fv)) ρ) : WO E P (dLc [v] src (tg1 v) dYes f ρ) := by
  rw [w_lcA (fun d => fv (natOf d)) hv hl hsrc (by rw [List.length_map]; exact hc)]
  · rw [List.map_map]
    exact k
  · intro d hd
    obtain ⟨x, hx, rfl⟩ := List.mem_map.mp hd
    exact hf x hx
theorem w_lcNF {E : Exn → DL.Env → Prop} {P : D → DL.Env → Prop} {ρ : DL.Env} {v : Nat} {l : List Nat} {src : DL.Env → Out (List D)} {t : DL.Env → Out Bool} {f : DL.Env → Out D} (tb : Nat → Bool) (fv : Nat → D) (hv : ∀ d, ρ[v]? = some (some d) → isF d = true) (hl : v < ρ.length) (hsrc : src ρ = .ok (l.map natD) ρ) (hc : l.length ≤ 1000000)
    (ht : ∀ x ∈ l, t (ρ.set v (some (natD x))) = .ok (tb x) (ρ.set v (some (natD x)))) (hf : ∀ x ∈ l, tb x = true → f (ρ.set v (some (natD x))) = .ok (fv x) (ρ.set v (some (natD x)))) (k : P (.lst true ((l.filter tb).map fv)) ρ) : WO E P (dLc [v] src (tg1 v) t f ρ) := by
  rw [w_lcF (fun d => tb (natOf d)) (fun d => fv (natOf d)) hv hl hsrc (by rw [List.length_map]; exact hc)]
  · rw [List.filter_map, List.map_map]
    exact k
  · intro d hd
    obtain ⟨x, hx, rfl⟩ := List.mem_map.mp hd
    exact ht x hx
  · intro d hd h
    obtain ⟨x, hx, rfl⟩ := List.mem_map.mp hd
    exact hf x hx h
theorem src_lst {ρ : DL.Env} {k : Kd} (hk : k = .lst ∨ k = .tup) {f : DL.Env → Out D} {l : List Nat} (h : f ρ = .ok (.n k false (l.map natD)) ρ) (hn : l.length ≤ 1000000) : dIter f ρ = .ok (l.map natD) ρ := by
  apply out_eq
  have hfl : isFL (l.map natD) = true := isFL_map fun _ => rfl
  rw [w_Iter, h]
  rcases hk with rfl | rfl <;> simp [hfl] <;> omega
theorem src_rngN {ρ : DL.Env} {f : DL.Env → Out D} {n : Nat} (h : f ρ = .ok (.a (.int (n : Int))) ρ) (hn : n ≤ 1000) : dRng1 f ρ = .ok ((List.range n).map natD) ρ := src_rng h hn
theorem has_app {Q : Ps} {i : Nat} {f : DL.Env → Out D} {d : D} {ρ : DL.Env} {xs : List D} (h : ρ[i]? = some (some (.lst true xs))) (hf : f ρ = .ok d ρ) (hl : xs.length < 1000000) (k : Q.nx (ρ.set i (some (.lst true (xs ++ [d]))))) : WP Q (dHas i (dBind f (stApp i)) ρ) := by
  rw [p_Has, h, so_some, so_some]
  refine ⟨trivial, ?_⟩
  rw [p_Bind, hf, wo_ok, p_App, h, so_some, so_some, asL_lst]
  exact ⟨hl, k⟩
structure RankS (n : Nat) (T : Tb) (r : Nat → Nat) : Prop where
  lt : ∀ x z, x < n → z < n → T z x = true → r z < r x
  ex : ∀ x, x < n → r x = 0 ∨ ∃ z, z < n ∧ T z x = true ∧ r z + 1 = r x
structure RankD (n : Nat) (T : Tb) (dom : List Nat) (r : Nat → Nat) : Prop where
  nd : dom.Nodup
  bd : ∀ x ∈ dom, x < n
  lt : ∀ x ∈ dom, ∀ z, z < n → T z x = true → z ∈ dom ∧ r z < r x
  ex : ∀ x ∈ dom, r x = 0 ∨ ∃ z, z < n ∧ T z x = true ∧ r z + 1 = r x
theorem RankD.len {n : Nat} {T : Tb} {dom : List Nat} {r : Nat → Nat} (h : RankD n T dom r) : dom.length ≤ n := by
  have := h.nd.length_le_of_subset (l₂ := List.range n) fun x hx => List.mem_range.mpr (h.bd x hx)
  simpa using this
theorem nfb : ¬ ("below" : Str) = "n" ∧ ¬ ("below" : Str) = "above" := by decide +kernel
theorem below_eq' {n : Nat} {T : Tb} (hn : n ≤ 60) : F_Order_below [.n (.ins "Order" ["n", "above"]) false [.a (.int (n : Int)), .n .tup false (vec n (mrow n T))]] = .rt (.n .tup false (vec n (mrow n fun y x => T x y))) none := below_eq hn
def downs (n : Nat) (T : Tb) (x : Nat) : Nat := ((List.range n).filter fun z => T z x).length
theorem downs_lt {n x y : Nat} {T : Tb} (tT : Tr n T) (iT : Irr n T) (hx : x < n) (hy : y < n) (h : T x y = true) : downs n T x < downs n T y :=
  filter_lt (p := fun z => T z x) (q := fun z => T z y) (fun z hz h2 => tT z x y (List.mem_range.mp hz) hx hy h2 h) ⟨x, List.mem_range.mpr hx, h, iT x hx⟩
theorem RankS.le {n : Nat} {T : Tb} {r : Nat → Nat} (tT : Tr n T) (iT : Irr n T) (h : RankS n T r) : ∀ (k x : Nat), x < n → downs n T x ≤ k → r x ≤ downs n T x := by
  intro k
  induction k with
  | zero =>
    intro x hx hk
    rcases h.ex x hx with e | ⟨z, hz, hT, e⟩
    · omega
    · have := downs_lt tT iT hz hx hT
      omega
  | succ k ih =>
    intro x hx hk
    rcases h.ex x hx with e | ⟨z, hz, hT, e⟩
    · omega
    · have h1 := downs_lt tT iT hz hx hT
      have h2 := ih z hz (by omega)
      omega
def height (n : Nat) (r : Nat → Nat) : Nat := (((List.range n).map fun x => (r x : Int)).foldl max (-1) + 1).toNat
theorem height_spec (n : Nat) (r : Nat → Nat) : (((List.range n).map fun x => (r x : Int)).foldl max (-1) + 1) = (height n r : Int) ∧ (∀ x, x < n → r x < height n r) ∧ (height n r = 0 ∨ ∃ x, x < n ∧ r x + 1 = height n r) := by
  obtain ⟨h1, h2, h3⟩ := foldl_max ((List.range n).map fun x => (r x : Int)) (-1)
  unfold height
  generalize ((List.range n).map fun x => (r x : Int)).foldl max (-1) = m at *
  refine ⟨by omega, fun x hx => ?_, ?_⟩
  · have := h2 (r x : Int) (List.mem_map.mpr ⟨x, List.mem_range.mpr hx, rfl⟩)
    omega
  · rcases h3 with e | e
    · left; omega
    · obtain ⟨x, hx, e⟩ := List.mem_map.mp e
      right
      exact ⟨x, List.mem_range.mp hx, by omega⟩
abbrev rkD (n : Nat) (r : Nat → Nat) : D := .n .tup false (vec n fun x => natD (r x))
section
variable {n : Nat} {T : Tb} {r : Nat → Nat}
theorem length_eq (hn : n ≤ 60) (hr : F_ranks [ordT n T] = .rt (rkD n r) none) : F_length [ordT n T] = .rt (.a (.int (height n r : Int))) none := by
  apply wf_eq
  unfold F_length
  rw [wf_fn]
  unfold B_length
  have hfl : isFL (vec n fun x => natD (r x)) = true := isFL_vec fun _ _ => rfl
  have gl : ∀ P : D → Prop, SO (gList (rkD n r)) P = P (.lst true (vec n fun x => natD (r x))) := fun P => by
    unfold gList rkD
    rfl
  have cat : ∀ P : D → Prop, SO (gAdd (.n .lst true [.a (.int (-1))]) (.lst true (vec n fun x => natD (r x)))) P = P (.lst true (((-1 : Int) :: (List.range n).map fun x => (r x : Int)).map D.int)) := fun P => by
    rw [catL rfl hfl (by simp; omega)]
    have : ([D.a (.int (-1))] ++ vec n fun x => natD (r x)) = ((-1 : Int) :: (List.range n).map fun x => (r x : Int)).map D.int := by
      unfold vec
      simp [natD]
    rw [this]
  have mx : ∀ (l : List Int) (P : D → Prop), SO (gMax1 (.lst true ((( -1 : Int) :: l).map D.int))) P = P (.a (.int (l.foldl max (-1)))) := fun l P => max1_eq
  rw [p_Bind, w_Op2, w_U, w_Op2]
  simp only [w_Lst, w_ACons, w_U, w_C, o_neg, w_ANil, wo_ok, agL_cons, agL_nil, Option.map_some, so_some]
  simp [isF_ordT, frz_ordT, hr, gl]
  rw [cat, mx]
  simp [(height_spec n r).1, ioOf]
end
end DC
namespace DC
open PySem L2 DL
theorem ixN_last {n : Nat} : ixN (n + 1) (-1) = some n := by
  unfold ixN
  have h1 : ¬ (0 : Int) ≤ -1 := by decide
  simp
  try omega
theorem gIxO_last {k : Kd} (hk : k = .lst ∨ k = .tup) {o : Bool} {xs : List D} {d : D} : gIxO (.n k o (xs ++ [d])) (.a (.int (-1))) = some d := by
  have : atI (xs ++ [d]) (-1) = some d := by
    unfold atI
    rw [List.length_append, List.length_singleton, ixN_last]
    simp
  rcases hk with rfl | rfl <;> exact this
theorem gIx_last {k : Kd} (hk : k = .lst ∨ k = .tup) {o : Bool} {xs : List D} {d : D} {P : D → Prop} (hf : isF d = true) : SO (gIx (.n k o (xs ++ [d])) (.a (.int (-1)))) P = P d := by
  unfold gIx
  rw [gIxO_last hk]
  simp [hf]
structure Dsc (n : Nat) (T : Tb) (r : Nat → Nat) (h : Nat) (c : List Nat) : Prop where
  bd : ∀ x ∈ c, x < n
  rk : ∀ (s x : Nat), c[s]? = some x → r x + 1 + s = h
  ch : c.Pairwise fun a b => T b a = true
end DC
namespace DC
open PySem L2 DL
def ls {α : Type} (l : List α) (g : α → Int) : Int := (l.map g).sum
theorem ls_cons {α : Type} {a : α} {l : List α} {g : α → Int} : ls (a :: l) g = g a + ls l g := by simp [ls]
theorem ls_append {α : Type} {l l' : List α} {g : α → Int} : ls (l ++ l') g = ls l g + ls l' g := by simp [ls]
theorem ls_perm {α : Type} {l l' : List α} {g : α → Int} (h : l.Perm l') : ls l g = ls l' g := by
  induction h with
  | nil => rfl
  | cons x _ ih => rw [ls_cons, ls_cons, ih]
  | swap x y l => rw [ls_cons, ls_cons, ls_cons, ls_cons]; omega
  | trans _ _ h1 h2 => rw [h1, h2]
theorem ls_congr {α : Type} {l : List α} {g g' : α → Int} (h : ∀ x ∈ l, g x = g' x) : ls l g = ls l g' := by
  unfold ls
  rw [List.map_congr_left h]
theorem ls_flatMap {α β : Type} {f : α → List β} {g : β → Int} : ∀ {l : List α}, ls (l.flatMap f) g = ls l fun a => ls (f a) g
  | [] => rfl
  | a :: l => by rw [List.flatMap_cons, ls_append, ls_cons, ls_flatMap]
theorem ls_map {α β : Type} {f : α → β} {g : β → Int} {l : List α} : ls (l.map f) g = ls l fun a => g (f a) := by
  unfold ls
  rw [List.map_map]
  rfl
theorem ls_one {α : Type} {l : List α} : ls l (fun _ => 1) = l.length := by
  induction l with
  | nil => rfl
  | cons a l ih => rw [ls_cons, ih]; simp; omega
theorem ls_filter {p : Nat → Bool} {g : Nat → Int} {n : Nat} : ls ((List.range n).filter p) g = Sm n fun y => if p y = true then g y else 0 := sum_filter n
theorem ls_range {g : Nat → Int} {n : Nat} : ls (List.range n) g = Sm n g := rfl
section
variable {n : Nat} {T : Tb} (tT : Tr n T) (iT : Irr n T)
include tT iT
end
end DC
namespace DC
open PySem L2 DL
end DC
namespace DC
open PySem L2 DL
theorem isint_bl {b : Bool} : F_is_integer [.a (.bl b)] = .rt (.a (.bl false)) none := by cases b <;> kernel_rfl
theorem isint_non : F_is_integer [.a .non] = .rt (.a (.bl false)) none := by kernel_rfl
end DC
namespace DC
open PySem L2 DL
end DC
namespace DC
open PySem L2 DL
def fl (n : Nat) (T : Tb) (F : Nat) : List Nat := (List.range n).filter fun x => !F.testBit x && (List.range n).all fun z => !T z x || F.testBit z
theorem mem_fl {n F x : Nat} {T : Tb} : x ∈ fl n T F ↔ x < n ∧ F.testBit x = false ∧ ∀ z, z < n → T z x = true → F.testBit z = true := by
  unfold fl
  rw [List.mem_filter, List.mem_range, Bool.and_eq_true, List.all_eq_true]
  constructor
  · rintro ⟨h1, h2, h3⟩
    refine ⟨h1, by simpa using h2, fun z hz h => ?_⟩
    have := h3 z (List.mem_range.mpr hz)
    simpa [h] using this
  · rintro ⟨h1, h2, h3⟩
    refine ⟨h1, by simp [h2], fun z hz => ?_⟩
    cases h : T z x with
    | false => rfl
    | true => rw [h3 z (List.mem_range.mp hz) h]; rfl
theorem fl_asc {n F : Nat} {T : Tb} : (fl n T F).Pairwise (· < ·) := List.pairwise_lt_range.filter _
def pt (F x : Nat) : Nat := F ||| 2 ^ x
theorem pt_bit {F x z : Nat} : (pt F x).testBit z = (F.testBit z || decide (x = z)) := by
  unfold pt
  rw [Nat.testBit_or, Nat.testBit_two_pow]
theorem pt_lt {n F x : Nat} (hF : F < 2 ^ n) (hx : x < n) : pt F x < 2 ^ n := Nat.or_lt_two_pow hF (Nat.pow_lt_pow_right (by decide) hx)
def bits (n F : Nat) : Nat := ((List.range n).filter F.testBit).length
theorem bits_pt {n F x : Nat} (hx : x < n) (h : F.testBit x = false) : bits n (pt F x) = bits n F + 1 := by
  unfold bits
  have hp : ((List.range n).filter (pt F x).testBit).Perm (x :: (List.range n).filter F.testBit) := by
    refine (List.perm_ext_iff_of_nodup (List.nodup_range.filter _) (List.nodup_cons.mpr ⟨fun q => ?_, List.nodup_range.filter _⟩)).mpr fun z => ?_
    · have := (List.mem_filter.mp q).2
      rw [h] at this; cases this
    · rw [List.mem_filter, List.mem_cons, List.mem_filter, List.mem_range, pt_bit]
      by_cases e : x = z
      · subst e; simp [hx]
      · have e' : ¬ z = x := fun q => e q.symm
        simp [e, e']
  rw [hp.length_eq, List.length_cons]
theorem bits_zero {n : Nat} : bits n 0 = 0 := by
  unfold bits
  rw [List.filter_eq_nil_iff.mpr fun x _ => by simp]
  rfl
def Wy (n : Nat) (T : Tb) : Nat → Nat → Int
  | 0, _ => 1
  | k + 1, F => ls (fl n T F) fun x => Wy n T k (pt F x)
def cmp (n : Nat) (T : Tb) : Nat → Nat → List (List Nat)
  | 0, _ => [[]]
  | k + 1, F => (fl n T F).flatMap fun x => (cmp n T k (pt F x)).map fun r => x :: r
def Wv (n : Nat) (T : Tb) (F : Nat) : Int := Wy n T (n - bits n F) F
inductive Lv (n : Nat) (T : Tb) : Nat → Nat → Prop
  | zero : Lv n T 0 0
  | step {t F x : Nat} : Lv n T t F → x ∈ fl n T F → Lv n T (t + 1) (pt F x)
theorem Lv.bits {n t F : Nat} {T : Tb} (h : Lv n T t F) : bits n F = t ∧ F < 2 ^ n := by
  induction h with
  | zero => exact ⟨bits_zero, Nat.two_pow_pos n⟩
  | step _ hx ih =>
    obtain ⟨h1, h2, _⟩ := mem_fl.mp hx
    exact ⟨by rw [bits_pt h1 h2, ih.1], pt_lt ih.2 h1⟩
end DC
namespace DC
open PySem L2 DL
end DC
namespace DC
open PySem L2 DL
def stp (n : Nat) (T : Tb) (F : Nat) : List Nat := (fl n T F).map (pt F)
theorem flat_lenB {α β : Type} {f : α → List β} {m : Nat} (h : ∀ a, (f a).length ≤ m) : ∀ l : List α, (l.flatMap f).length ≤ l.length * m
  | [] => by simp
  | a :: l => by
    rw [List.flatMap_cons, List.length_append, List.length_cons, Nat.succ_mul]
    have := h a
    have := flat_lenB h l
    omega
theorem range_map_len2 {n : Nat} : ((List.range n).map natD).length = n := by simp
def fW (n : Nat) (T : Tb) (F : Nat) : D := .a (.int (Wv n T F))
theorem wo_of {E : Exn → DL.Env → Prop} {P : D → DL.Env → Prop} {o : Out D} {x : D} {ρ : DL.Env} (h : o = .ok x ρ) (k : P x ρ) : WO E P o := by
  rw [h, wo_ok]
  exact k
end DC
namespace DC
open PySem L2 DL
def plc0 (n : Nat) (s : Nat → Nat) (m : Nat) : Nat := ((List.range n).find? fun x => decide (s x = m)).getD 0
theorem dput_G {Q : Ps} {i k : Nat} {f : Nat → D} {d : D} {fe : DL.Env → Out D} {ρ : DL.Env} {dom : List Nat} (h : ρ[i]? = some (some (dctN true dom f))) (hfr : isFL (dom.map f) = true) (hf : fe ρ = .ok (natD k) ρ) (hd : isF d = true) (hk : d = f k) (hc : dom.length < cap) (q : Q.nx (ρ.set i (some (dctN true (addN k dom) f)))) : WP Q (stDPut i fe d ρ) := by
  rw [p_DPut, h, so_some, so_some, asDct_N]
  refine ⟨rfl, ?_⟩
  rw [hf, wo_ok, asKey_natD, h, so_some, so_some, asDct_N]
  refine ⟨rfl, ⟨⟨hd, hfr⟩, by rw [List.length_map]; exact hc⟩, ?_⟩
  rw [putKs_N, putXs_N]
  have e : (addN k dom).map (updN k d f) = (addN k dom).map f := by
    refine List.map_congr_left fun y _ => ?_
    unfold updN
    by_cases e : y = k
    · subst e; simp [hk]
    · simp [e]
  rw [e]
  exact q
def bndR (n : Nat) (s : Nat → Nat) (x y : Nat) : Int := if (s x &&& s y) ∈ (List.range n).map s then (plc0 n s (s x &&& s y) : Int) else -1
end DC
namespace DC
open PySem L2 DL
def upm (n : Nat) (T : Tb) (x : Nat) : Nat := mask n fun y => decide (x = y) || T x y
def dnm (n : Nat) (T : Tb) (y : Nat) : Nat := mask n fun x => decide (x = y) || T x y
def tabI (n : Nat) (J : Nat → Nat → Int) : D := .n .tup false (vec n fun x => .n .tup false (vec n fun y => .a (.int (J x y))))
def IsLat (n : Nat) (T : Tb) : Prop := 0 < n ∧ (∀ x, x < n → ∀ y, y < n → bndR n (upm n T) x y ≠ -1) ∧ ∀ x, x < n → ∀ y, y < n → bndR n (dnm n T) x y ≠ -1
def latD (o : Bool) (n : Nat) (T : Tb) : D := .n (.ins "Lattice" ["above", "joins", "meets"]) o [.n .tup false (vec n (mrow n T)), tabI n (bndR n (upm n T)), tabI n (bndR n (dnm n T))]
end DC
namespace DC
open PySem L2 DL
end DC
namespace DC
open PySem L2 DL
def le (T : Tb) (x y : Nat) : Bool := decide (x = y) || T x y
def flp (T : Tb) : Tb := fun x y => T y x
theorem tr_flp {n : Nat} {T : Tb} (h : Tr n T) : Tr n (flp T) := fun a b c ha hb hc h1 h2 => h c b a hc hb ha h2 h1
theorem irr_flp {n : Nat} {T : Tb} (h : Irr n T) : Irr n (flp T) := fun x hx => h x hx
theorem le_refl {T : Tb} {x : Nat} : le T x x = true := by simp [le]
theorem le_of {T : Tb} {x y : Nat} (h : T x y = true) : le T x y = true := by simp [le, h]
theorem le_iff {T : Tb} {x y : Nat} : le T x y = true ↔ x = y ∨ T x y = true := by simp [le]
theorem le_trans {n : Nat} {T : Tb} (tT : Tr n T) {a b c : Nat} (ha : a < n) (hb : b < n) (hc : c < n) (h1 : le T a b = true) (h2 : le T b c = true) : le T a c = true := by
  rcases le_iff.mp h1 with rfl | h1'
  · exact h2
  rcases le_iff.mp h2 with rfl | h2'
  · exact h1
  exact le_of (tT a b c ha hb hc h1' h2')
def jn (n : Nat) (T : Tb) (x y : Nat) : Nat := (bndR n (upm n T) x y).toNat
def mt (n : Nat) (T : Tb) (x y : Nat) : Nat := (bndR n (dnm n T) x y).toNat
def ji (n : Nat) (T : Tb) (x : Nat) : Bool := decide (((prs n (covs n T)).filter fun p => decide (p.2 = x)).length = 1)
end DC
namespace DC
open PySem L2 DL
end DC
namespace DC
open PySem L2 DL
theorem eqD_prD {p q : Nat × Nat} : eqD (prD p) (prD q) = decide (p = q) := by
  obtain ⟨a, b⟩ := p
  obtain ⟨c, d⟩ := q
  unfold prD natD
  simp [eqD, eqDL, eqA]
  rw [Bool.eq_iff_iff]
  simp
  omega
theorem anyEq_prD {p : Nat × Nat} : ∀ {l : List (Nat × Nat)}, anyEq (prD p) (l.map prD) = decide (p ∈ l)
  | [] => by simp [anyEq]
  | q :: l => by
    rw [List.map_cons]
    unfold anyEq
    rw [anyEq_prD (l := l), eqD_prD]
    by_cases e : q = p
    · simp [e]
    · have e2 : ¬ p = q := fun h => e h.symm
      simp [e, e2]
theorem pDL_prD {m : Nat} : ∀ {l : List (Nat × Nat)}, pDL (m + 2) (l.map prD) = true
  | [] => rfl
  | y :: l => by
    show (pD (m + 2) (prD y) && pDL (m + 2) (l.map prD)) = true
    rw [pDL_prD (l := l)]
    rfl
theorem gInB_prD {k : Kd} (hk : k = .lst ∨ k = .tup) {p : Nat × Nat} {o : Bool} {l : List (Nat × Nat)} : gInB (prD p) (.n k o (l.map prD)) = some (decide (p ∈ l)) := by
  rcases hk with rfl | rfl
  · unfold gInB
    dsimp only
    rw [if_pos ⟨rfl, pDL_prD (m := 58)⟩, anyEq_prD]
  · unfold gInB
    dsimp only
    rw [if_neg (fun h => by have := h.1; cases this), if_pos ⟨rfl, pDL_prD (m := 58)⟩, anyEq_prD]
theorem o_inP {k : Kd} (hk : k = .lst ∨ k = .tup) {p : Nat × Nat} {o : Bool} {l : List (Nat × Nat)} {P : D → Prop} : SO (gIn (prD p) (.n k o (l.map prD))) P = P (.a (.bl (decide (p ∈ l)))) := by
  unfold gIn
  rw [gInB_prD hk]
  rfl
end DC
namespace DC
open PySem L2 DL
end DC
namespace DC
open PySem L2 DL
theorem set_same {ρ : DL.Env} {i : Nat} {o : Option D} (h : ρ[i]? = some o) : ρ.set i o = ρ := by
  apply List.ext_getElem?
  intro m
  by_cases q : i = m
  · subst q; rw [get_set_self (List.getElem?_eq_some_iff.mp h).1, h]
  · rw [get_set_ne q]
theorem wipeE_get {ρ : DL.Env} : ∀ {vs : List Nat} {j : Nat}, (wipeE ρ vs)[j]? = if j ∈ vs ∧ j < ρ.length then some none else ρ[j]?
  | [], j => by simp [wipeE]
  | v :: vs, j => by
    unfold wipeE
    by_cases e : v = j
    · subst e
      by_cases hl : v < ρ.length
      · rw [get_set_self (by rw [wipeE_len]; exact hl), if_pos ⟨by simp, hl⟩]
      · rw [if_neg fun h => hl h.2, List.getElem?_eq_none (by rw [List.length_set, wipeE_len]; omega), List.getElem?_eq_none (by omega)]
    · rw [get_set_ne e, wipeE_get (vs := vs)]
      have : (j ∈ v :: vs) ↔ j ∈ vs := by
        rw [List.mem_cons]
        exact ⟨fun h => h.resolve_left fun q => e q.symm, .inr⟩
      simp only [this]
theorem backE_len {ρ : DL.Env} : ∀ {vs : List Nat} {ρ' : DL.Env}, (backE ρ vs ρ').length = ρ'.length
  | [], ρ' => rfl
  | v :: vs, ρ' => by
    unfold backE
    split
    · split
      · rw [List.length_set, backE_len (vs := vs)]
      · exact backE_len (vs := vs)
    · exact backE_len (vs := vs)
theorem backE_get {ρ : DL.Env} : ∀ {vs : List Nat} {ρ' : DL.Env}, ρ'.length = ρ.length → (∀ v ∈ vs, ∀ d, ρ[v]? = some (some d) → isF d = true) → ∀ j, ((j ∈ vs → ∀ d, ρ[j]? ≠ some (some d)) → ρ'[j]? = ρ[j]?) → (backE ρ vs ρ')[j]? = ρ[j]?
  | [], ρ', hl, hv, j, h => h fun q => by cases q
  | v :: vs, ρ', hl, hv, j, h => by
    unfold backE
    by_cases e : v = j
    · subst e
      cases hq : ρ[v]? with
      | none =>
        dsimp only
        rw [List.getElem?_eq_none (by rw [backE_len, hl]; exact List.getElem?_eq_none_iff.mp hq)]
      | some o =>
        have hlt := (List.getElem?_eq_some_iff.mp hq).1
        cases o with
        | none =>
          dsimp only
          rw [backE_get (vs := vs) hl (fun w hw => hv w (by simp [hw])) v fun _ => h fun _ d => by rw [hq]; simp]
          exact hq
        | some d =>
          dsimp only
          rw [if_pos ⟨hv v (by simp) d hq, by rw [backE_len, hl]; exact hlt⟩, get_set_self (by rw [backE_len, hl]; exact hlt)]
    · have ih := backE_get (vs := vs) hl (fun w hw => hv w (by simp [hw])) j fun q => h fun m d => q ((List.mem_cons.mp m).resolve_left fun x => e x.symm) d
      split
      · split
        · rw [get_set_ne e]; exact ih
        · exact ih
      · exact ih
theorem back_all {ρ : DL.Env} {vs : List Nat} (hv : ∀ v ∈ vs, ∀ d, ρ[v]? = some (some d) → isF d = true) : backE ρ vs (wipeE ρ vs) = ρ := by
  apply List.ext_getElem?
  intro j
  refine backE_get (wipeE_len ρ vs) hv j fun h => ?_
  rw [wipeE_get]
  split
  · rename_i q
    have := h q.1
    cases e : ρ[j]? with
    | none =>
      have := List.getElem?_eq_none_iff.mp e
      omega
    | some o =>
      cases o with
      | none => rfl
      | some d => exact absurd e (this d)
  · rfl
theorem w_lcPr2 {E : Exn → DL.Env → Prop} {P : D → DL.Env → Prop} {ρ : DL.Env} {a b : Nat} {ps : List (Nat × Nat)} {src : DL.Env → Out (List D)} {f : DL.Env → Out D} (fv : Nat × Nat → D) (ha : a < ρ.length) (hb : b < ρ.length) (hfa : ∀ d, ρ[a]? = some (some d) → isF d = true) (hfb : ∀ d, ρ[b]? = some (some d) → isF d = true) (hab : a ≠ b) (hsrc : src ρ = .ok (ps.map prD) ρ) (hc : ps.length ≤ 1000000)
    (hf : ∀ p ∈ ps, f ((ρ.set a (some (natD p.1))).set b (some (natD p.2))) = .ok (fv p) ((ρ.set a (some (natD p.1))).set b (some (natD p.2)))) (k : P (.lst true (ps.map fv)) ρ) : WO E P (dLc [a, b] src (tgT [a, b]) dYes f ρ) := by
  have hset : ∀ x y : Option D, ((wipeE ρ [a, b]).set a x).set b y = (ρ.set a x).set b y := fun x y => by
    apply List.ext_getElem?
    intro j
    by_cases e : b = j
    · subst e
      rw [get_set_self (by rw [List.length_set, wipeE_len]; exact hb), get_set_self (by rw [List.length_set]; exact hb)]
    · rw [get_set_ne e, get_set_ne e]
      by_cases e2 : a = j
      · subst e2
        rw [get_set_self (by rw [wipeE_len]; exact ha), get_set_self ha]
      · rw [get_set_ne e2, get_set_ne e2, wipeE_get, if_neg]
        rintro ⟨h, _⟩
        rcases List.mem_cons.mp h with rfl | h
        · exact e2 rfl
        · have : j = b := by simpa using h
          exact e this.symm
  have hw2 : ∀ x y : Option D, wipeE ((ρ.set a x).set b y) [a, b] = wipeE ρ [a, b] := fun x y => by
    apply List.ext_getElem?
    intro j
    rw [wipeE_get, wipeE_get, List.length_set, List.length_set]
    split
    · rfl
    · rename_i h
      by_cases hl : j < ρ.length
      · have h1 : j ∉ [a, b] := fun q => h ⟨q, hl⟩
        simp at h1
        rw [get_set_ne (fun e => h1.2 e.symm), get_set_ne fun e => h1.1 e.symm]
      · rw [List.getElem?_eq_none (by rw [List.length_set, List.length_set]; omega), List.getElem?_eq_none (by omega)]
  have hback : backE ρ [a, b] (wipeE ρ [a, b]) = ρ := back_all fun v hv d h => by
    rcases List.mem_cons.mp hv with rfl | hv
    · exact hfa d h
    · have : v = b := by simpa using hv
      subst this
      exact hfb d h
  have hidem : wipeE (wipeE ρ [a, b]) [a, b] = wipeE ρ [a, b] := (wipeE_idem ρ [a, b]).symm
  rw [w_Lc, hsrc, wo_ok]
  refine ⟨Nat.le_trans (by rw [List.length_map]; exact hc) (show 1000000 ≤ cap by decide), ?_⟩
  rw [lcL_run (fun _ => true) (fun d => fv (fstD d, sndD d))]
  · rw [wo_ok, hidem, hback, List.filter_eq_self.mpr (fun _ _ => rfl), List.map_map]
    exact k
  · intro d hd
    obtain ⟨p, hp, rfl⟩ := List.mem_map.mp hd
    have ht : tgT [a, b] (prD p) (wipeE ρ [a, b]) = some ((ρ.set a (some (natD p.1))).set b (some (natD p.2))) := by
      show (if a < (wipeE ρ [a, b]).length then (if b < ((wipeE ρ [a, b]).set a (some (natD p.1))).length then some (((wipeE ρ [a, b]).set a (some (natD p.1))).set b (some (natD p.2))) else none) else none) = _
      rw [if_pos (by rw [wipeE_len]; exact ha), if_pos (by rw [List.length_set, wipeE_len]; exact hb), hset]
    rw [ht, so_some]
    show WO NoE _ (dYes _)
    rw [w_Yes]
    refine ⟨rfl, ?_⟩
    rw [if_pos rfl, hf p hp, wo_ok]
    exact ⟨rfl, hw2 _ _⟩
theorem w_fz {fa : DL.Env → Out D} {ρ : DL.Env} {d : D} (h : fa ρ = .ok d ρ) : dFz fa ρ = .ok (frz d) ρ := by
  apply out_eq
  rw [w_Fz, h]
  exact ⟨rfl, rfl⟩
end DC
namespace DC
open PySem L2 DL
theorem ag2 {fa fb : DL.Env → Out D} {ρ : DL.Env} {a b : D} (ha : fa ρ = .ok a ρ) (hb : fb ρ = .ok b ρ) : dACons fa (dACons fb dANil) ρ = .ok [.d a, .d b] ρ := by
  apply out_eq
  rw [w_ACons, ha, wo_ok, w_ACons, hb, wo_ok, w_ANil]
  exact ⟨rfl, rfl⟩
theorem eqN {f g : DL.Env → Out D} {ρ : DL.Env} {a b : Nat} (hf : f ρ = .ok (natD a) ρ) (hg : g ρ = .ok (natD b) ρ) : dB (dOp2 gEq f g) ρ = .ok (decide (a = b)) ρ := by
  apply out_eq
  rw [w_B, w_Op2, hf, wo_ok, hg, wo_ok]
  simp [natD]
  omega
theorem neN {f g : DL.Env → Out D} {ρ : DL.Env} {a b : Nat} (hf : f ρ = .ok (natD a) ρ) (hg : g ρ = .ok (natD b) ρ) : dB (dOp2 gNe f g) ρ = .ok (!decide (a = b)) ρ := by
  apply out_eq
  rw [w_B, w_Op2, hf, wo_ok, hg, wo_ok]
  simp [natD]
  by_cases e : a = b
  · simp [e]
  · have : ¬ (a : Int) = b := by omega
    simp [e, this]
theorem andE {f g : DL.Env → Out Bool} {ρ : DL.Env} {a b : Bool} (hf : f ρ = .ok a ρ) (hg : a = true → g ρ = .ok b ρ) : dAndT f g ρ = .ok (a && b) ρ := by
  apply out_eq
  rw [w_AndT, hf, wo_ok]
  cases a with
  | false => rw [if_neg (by decide)]; exact ⟨rfl, rfl⟩
  | true => rw [if_pos rfl, hg rfl, wo_ok]; exact ⟨by simp, rfl⟩
theorem orE {f g : DL.Env → Out Bool} {ρ : DL.Env} {a b : Bool} (hf : f ρ = .ok a ρ) (hg : a = false → g ρ = .ok b ρ) : dOrT f g ρ = .ok (a || b) ρ := by
  apply out_eq
  rw [w_OrT, hf, wo_ok]
  cases a with
  | false => rw [if_neg (by decide), hg rfl, wo_ok]; exact ⟨by simp, rfl⟩
  | true => rw [if_pos rfl]; exact ⟨rfl, rfl⟩
end DC
namespace DC
open PySem L2 DL
def itL (L : List Nat) (i : Nat) : Nat := L.getD i 0
structure Fam (L : List Nat) : Prop where
  nd : L.Nodup
  ne : L ≠ []
  lt : ∀ a ∈ L, a < 8
  cl : ∀ a ∈ L, ∀ b ∈ L, a &&& b ∈ L ∧ a ||| b ∈ L
theorem itL_mem {L : List Nat} {i : Nat} (h : i < L.length) : itL L i ∈ L := by
  unfold itL
  rw [List.getD_eq_getElem?_getD, List.getElem?_eq_getElem h]
  exact List.getElem_mem h
theorem itL_inj {L : List Nat} (nd : L.Nodup) {i j : Nat} (hi : i < L.length) (hj : j < L.length) (h : itL L i = itL L j) : i = j := by
  unfold itL at h
  rw [List.getD_eq_getElem?_getD, List.getElem?_eq_getElem hi, List.getD_eq_getElem?_getD, List.getElem?_eq_getElem hj] at h
  exact (List.getElem_inj nd).mp h
theorem itL_ex {L : List Nat} {a : Nat} (h : a ∈ L) : ∃ i, i < L.length ∧ itL L i = a := by
  obtain ⟨i, hi, e⟩ := List.getElem_of_mem h
  refine ⟨i, hi, ?_⟩
  unfold itL
  rw [List.getD_eq_getElem?_getD, List.getElem?_eq_getElem hi]
  exact e
theorem nodup_lt {n : Nat} : ∀ {l : List Nat}, l.Nodup → (∀ x ∈ l, x < n) → l.length ≤ n := by
  induction n with
  | zero =>
    intro l _ h
    cases l with
    | nil => exact Nat.le_refl _
    | cons x l => exact absurd (h x (by simp)) (Nat.not_lt_zero _)
  | succ n ih =>
    intro l nd h
    have h1 : (l.erase n).length ≤ n := ih (nd.erase n) fun x hx => by
      have h2 := List.mem_of_mem_erase hx
      have h3 : x ≠ n := fun e => by
        subst e
        exact (List.Nodup.not_mem_erase nd) hx
      have := h x h2
      omega
    have h2 : l.length ≤ (l.erase n).length + 1 := by
      rw [List.length_erase]
      split <;> omega
    omega
structure LatOk (n : Nat) (ps : List (Nat × Nat)) : Prop where
  bd : Bd n ps
  ir : Irr n (clo n ps)
  la : IsLat n (clo n ps)
  hn : n ≤ 20
  hl : ps.length ≤ 1000
end DC
namespace DC
open PySem L2 DL
theorem tup2 {fa fb : DL.Env → Out D} {ρ : DL.Env} {a b : D} (ha : fa ρ = .ok a ρ) (hb : fb ρ = .ok b ρ) (za : isF a = true) (zb : isF b = true) : dTup (dACons fa (dACons fb dANil)) ρ = .ok (.n .tup false [a, b]) ρ := by
  apply out_eq
  rw [w_Tup, ag2 ha hb, wo_ok]
  refine ⟨show 2 ≤ cap by decide, ?_, rfl⟩
  rw [frzL_isFL [a, b] (by rw [isFL_cons, isFL_cons, za, zb]; rfl)]
theorem if_app {Q : Ps} {t : DL.Env → Out Bool} {b : Bool} {i : Nat} {f : DL.Env → Out D} {d : D} {xs : List D} {ρ : DL.Env} (ht : t ρ = .ok b ρ) (h : ρ[i]? = some (some (.lst true xs))) (hf : b = true → f ρ = .ok d ρ) (hl : xs.length < 1000000) (k1 : b = true → Q.nx (ρ.set i (some (.lst true (xs ++ [d]))))) (k0 : b = false → Q.nx ρ) : WP Q (dIf t (dHas i (dBind f (stApp i))) dNext ρ) := by
  rw [p_If, ht, wo_ok]
  cases b with
  | true => rw [if_pos rfl]; exact has_app h (hf rfl) hl (k1 rfl)
  | false => rw [if_neg (by decide), p_Next]; exact k0 rfl
theorem row_succ {i j : Nat} {p : Nat → Bool} : ((List.range (j + 1)).filter p).map (fun y => (i, y)) = ((List.range j).filter p).map (fun y => (i, y)) ++ if p j = true then [(i, j)] else [] := by
  rw [List.range_succ, List.filter_append, List.map_append]
  congr 1
  cases e : p j <;> simp [e]
end DC
namespace DC
open PySem L2 DL
theorem unPr {ys : List D} {ps : List (Nat × Nat)} (p : ys.Perm (ps.map prD)) : ∃ qs : List (Nat × Nat), qs.Perm ps ∧ ys = qs.map prD := by
  have key : ∀ q : Nat × Nat, (fstD (prD q), sndD (prD q)) = q := fun q => rfl
  refine ⟨ys.map fun d => (fstD d, sndD d), ?_, ?_⟩
  · have := p.map fun d => (fstD d, sndD d)
    rw [List.map_map] at this
    have e : ps.map ((fun d => (fstD d, sndD d)) ∘ prD) = ps := by
      have : ((fun d => (fstD d, sndD d)) ∘ prD) = id := funext key
      rw [this, List.map_id]
    rwa [e] at this
  · rw [List.map_map]
    have : ∀ l : List D, (∀ y ∈ l, y ∈ ps.map prD) → l = l.map (prD ∘ fun d => (fstD d, sndD d)) := fun l => by
      induction l with
      | nil => intro _; rfl
      | cons y l ih =>
        intro h
        obtain ⟨q, _, rfl⟩ := List.mem_map.mp (h y (by simp))
        rw [List.map_cons, ← ih fun z hz => h z (by simp [hz])]
        rfl
    exact this ys fun y hy => p.mem_iff.mp hy
theorem o_sortPr {o : Bool} {ps : List (Nat × Nat)} {P : D → Prop} (hl : ps.length < 64) (hb : ∀ p ∈ ps, p.1 < 1000000 ∧ p.2 < 1000000) : SO (gSortU (.n .lst o (ps.map prD))) P = P (.lst true (sortU (ps.map prD))) := by
  have hd : dimU (ps.map prD) = 2 ∨ ps = [] := by
    cases ps with
    | nil => exact .inr rfl
    | cons p ps => exact .inl rfl
  have hok : ∀ p ∈ ps, okU 2 (prD p) = true := fun p hp => by
    have := hb p hp
    unfold okU
    show (decide (([(p.1 : Int), (p.2 : Int)] : List Int).length = 2) && ([(p.1 : Int), (p.2 : Int)] : List Int).all fun z => decide (0 ≤ z) && decide (z < bU)) = true
    have hB : (1000000 : Int) < bU := by decide
    simp
    omega
  have hc : isFL (ps.map prD) = true ∧ (ps.map prD).length < 64 ∧ 1 ≤ dimU (ps.map prD) ∧ (ps.map prD).all (okU (dimU (ps.map prD))) = true := by
    refine ⟨isFL_pr, by rw [List.length_map]; exact hl, ?_, ?_⟩
    · rcases hd with h | h
      · rw [h]; decide
      · subst h; decide
    · rcases hd with h | h
      · rw [h, List.all_eq_true]
        intro x hx
        obtain ⟨p, hp, rfl⟩ := List.mem_map.mp hx
        exact hok p hp
      · subst h; rfl
  unfold gSortU
  dsimp only
  rw [if_pos hc]
  rfl
end DC
namespace DC
open PySem L2 DL
end DC
namespace DC
open PySem L2 DL
end DC
namespace DC
open PySem L2 DL
def gens (L : List Nat) (a : Nat) : List Nat := L.flatMap fun b => [a &&& b, a ||| b]
def ins (l : List Nat) (x : Nat) : List Nat := if x ∈ l then l else l ++ [x]
structure Shp (l : List Nat) : Prop where
  ex : ∃ hd tl, l = hd ++ tl ∧ hd.length ≤ 3 ∧ hd ≠ [] ∧ tl.Nodup
  lt : ∀ x ∈ l, x < 8
end DC
namespace DC
open PySem L2 DL
instance {n : Nat} {ps : List (Nat × Nat)} : Decidable (Bd n ps) := inferInstanceAs (Decidable (∀ p ∈ ps, p.1 < n ∧ p.2 < n))
end DC
namespace DC
open PySem L2 DL
theorem ag4 {fa fb fc fd : DL.Env → Out D} {ρ : DL.Env} {a b c d : D} (ha : fa ρ = .ok a ρ) (hb : fb ρ = .ok b ρ) (hc : fc ρ = .ok c ρ) (hd : fd ρ = .ok d ρ) : dACons fa (dACons fb (dACons fc (dACons fd dANil))) ρ = .ok [.d a, .d b, .d c, .d d] ρ := by
  apply out_eq
  rw [w_ACons, ha, wo_ok, w_ACons, hb, wo_ok, w_ACons, hc, wo_ok, w_ACons, hd, wo_ok, w_ANil]
  exact ⟨rfl, rfl⟩
theorem if_no {Q : Ps} {t : DL.Env → Out Bool} {f g : DL.Env → Fl} {ρ : DL.Env} (h : t ρ = .ok false ρ) (k : WP Q (g ρ)) : WP Q (dIf t f g ρ) := by
  rw [p_If, h, wo_ok, if_neg (by decide)]
  exact k
theorem or_no {f g : DL.Env → Out Bool} {ρ : DL.Env} (hf : f ρ = .ok false ρ) (hg : g ρ = .ok false ρ) : dOrT f g ρ = .ok false ρ := orE hf fun _ => hg
theorem andV {f g : DL.Env → Out D} {ρ : DL.Env} {b : Bool} (hf : f ρ = .ok (.a (.bl true)) ρ) (hg : g ρ = .ok (.a (.bl b)) ρ) : dAndV f g ρ = .ok (.a (.bl b)) ρ := by
  apply out_eq
  rw [w_AndV, hf, wo_ok]
  rw [asB_bl, if_pos rfl, hg, wo_ok]
  exact ⟨rfl, rfl⟩
theorem notV {f : DL.Env → Out D} {ρ : DL.Env} {b : Bool} (hf : f ρ = .ok (.a (.bl b)) ρ) : dNotV f ρ = .ok (.a (.bl !b)) ρ := by
  apply out_eq
  rw [w_NotV, hf, wo_ok]
  exact ⟨rfl, rfl⟩
theorem bE {f : DL.Env → Out D} {ρ : DL.Env} {b : Bool} (hf : f ρ = .ok (.a (.bl b)) ρ) : dB f ρ = .ok b ρ := by
  apply out_eq
  rw [w_B, hf, wo_ok]
  exact ⟨rfl, rfl⟩
theorem notE {f : DL.Env → Out Bool} {ρ : DL.Env} {b : Bool} (hf : f ρ = .ok b ρ) : dNotT f ρ = .ok (!b) ρ := by
  apply out_eq
  rw [w_NotT, hf, wo_ok]
  exact ⟨rfl, rfl⟩
end DC
namespace DC
open PySem L2 DL
end DC
namespace DC
open PySem L2 DL
end DC
namespace DC
open PySem L2 DL
end DC
namespace DC
open PySem L2 DL
structure Ren (n : Nat) (r g : Nat → Nat) : Prop where
  fr : ∀ x, x < n → r x < n ∧ g (r x) = x
  fg : ∀ a, a < n → g a < n ∧ r (g a) = a
end DC
namespace DC
open PySem L2 DL
def Pt (n : Nat) (c : Nat → Nat) : Prop := ∀ x, x < n → c x ≤ x ∧ c (c x) = c x
def Ref (n : Nat) (c d : Nat → Nat) : Prop := ∀ a b, a < n → b < n → c a = c b → d a = d b
def Con (n : Nat) (T : Tb) (c : Nat → Nat) : Prop := ∀ x y z, x < n → y < n → z < n → c x = c y → c (jn n T x z) = c (jn n T y z) ∧ c (mt n T x z) = c (mt n T y z)
section
variable {n : Nat} {T : Tb} (tT : Tr n T) (iT : Irr n T) (L : IsLat n T)
include tT iT L
end
structure Pas (n : Nat) (T : Tb) (c c' : Nat → Nat) : Prop where
  pt : Pt n c'
  le : ∀ z, z < n → c' z ≤ c z
  gr : Ref n c c'
  rf : ∀ d, Con n T d → Ref n c d → Ref n c' d
section
variable {n : Nat} {T : Tb} (tT : Tr n T) (iT : Irr n T) (L : IsLat n T)
include tT iT L
end
structure Lst (n : Nat) (T : Tb) (ps : List (Nat × Nat)) (c : Nat → Nat) : Prop where
  pt : Pt n c
  con : Con n T c
  has : ∀ p ∈ ps, c p.1 = c p.2
  le : ∀ d, Con n T d → (∀ p ∈ ps, d p.1 = d p.2) → Ref n c d
end DC
namespace DC
open PySem L2 DL
theorem minE {f g : DL.Env → Out D} {ρ : DL.Env} {a b : Nat} (hf : f ρ = .ok (natD a) ρ) (hg : g ρ = .ok (natD b) ρ) : dOp2 gMin2 f g ρ = .ok (natD (min a b)) ρ := by
  apply out_eq
  rw [w_Op2, hf, wo_ok, hg, wo_ok]
  show D.a (.int (if (b : Int) < (a : Int) then (b : Int) else (a : Int))) = natD (min a b) ∧ _
  refine ⟨?_, rfl⟩
  have : (if (b : Int) < (a : Int) then (b : Int) else (a : Int)) = ((min a b : Nat) : Int) := by split <;> omega
  rw [this]
  rfl
theorem ag3 {fa fb fc : DL.Env → Out D} {ρ : DL.Env} {a b c : D} (ha : fa ρ = .ok a ρ) (hb : fb ρ = .ok b ρ) (hc : fc ρ = .ok c ρ) : dACons fa (dACons fb (dACons fc dANil)) ρ = .ok [.d a, .d b, .d c] ρ := by
  apply out_eq
  rw [w_ACons, ha, wo_ok, w_ACons, hb, wo_ok, w_ACons, hc, wo_ok, w_ANil]
  exact ⟨rfl, rfl⟩
end DC
namespace DC
open PySem L2 DL
section
variable {n : Nat} {T : Tb} (tT : Tr n T) (iT : Irr n T) (L : IsLat n T)
include tT iT L
end
def pl : Nat → List (List Nat)
  | 0 => [[]]
  | x + 1 => (pl x).flatMap fun h => ((List.range (x + 1)).filter fun k => decide (k = x) || decide (itL h k = k)).map fun k => h ++ [k]
end DC
namespace DC
open PySem L2 DL
structure Fnd (n : Nat) (T : Tb) (F : List (List Nat)) : Prop where
  nd : F.Nodup
  pt : ∀ p ∈ F, p.length = n ∧ Pt n (itL p) ∧ Con n T (itL p)
end DC
namespace DC
open PySem L2 DL
end DC
namespace DC
open PySem L2 DL
abbrev Tri : Type := Nat × Nat × Nat
def rowT (n x y : Nat) : List Tri := (List.range n).map fun z => (x, y, z)
def plaT (n x : Nat) : List Tri := (List.range n).flatMap (rowT n x)
def ff (n : Nat) (p : Tri → Bool) : Option Tri := ((List.range n).flatMap (plaT n)).find? p
section
variable {n : Nat} {T : Tb}
end
end DC
namespace DC
open PySem L2 DL
end DC
namespace DC
open PySem L2 DL
section
variable {n m : Nat} {T S : Tb} (hm : 0 < m) (tT : Tr n T) (iT : Irr n T) (tS : Tr m S) (iS : Irr m S)
include hm in
include hm in
include hm tT iT tS iS in
include hm in
include hm in
include hm tT iT tS iS in
include hm tT iT tS iS in
include hm tT iT tS iS in
end
end DC
namespace DC
open PySem L2 DL
theorem wo_of3 {α : Type} {E : Exn → DL.Env → Prop} {P : α → DL.Env → Prop} {o : Out α} {x : α} {ρ : DL.Env} (h : o = .ok x ρ) (k : P x ρ) : WO E P o := by
  rw [h, wo_ok]
  exact k
end DC
namespace DC
open PySem L2 DL
end DC
namespace DC
open PySem L2 DL
end DC
namespace DC
open PySem L2 DL
theorem fldN {n : Nat} {T : Tb} {P : D → Prop} : SO (gFld "n" (ordT n T)) P = P (.a (.int (n : Int))) := fld_n
end DC
namespace DC
open PySem L2 DL
theorem ag1 {fa : DL.Env → Out D} {ρ : DL.Env} {a : D} (ha : fa ρ = .ok a ρ) : dACons fa dANil ρ = .ok [.d a] ρ := by
  apply out_eq
  rw [w_ACons, ha, wo_ok, w_ANil]
  exact ⟨rfl, rfl⟩
theorem callE {F : List D → FR} {g : DL.Env → Out (List Ag)} {ρ : DL.Env} {ds : List D} {d : D} {k : Nat} (hg : g ρ = .ok (ds.map Ag.d) ρ) (hf : isFL ds = true) (hk : ds.length = k) (hF : F ds = .rt d none) : dCall k F g ρ = .ok d ρ := by
  apply out_eq
  rw [w_Call, hg, wo_ok]
  have e : agL (ds.map Ag.d) = some ds := by
    clear hg hf hk hF
    induction ds with
    | nil => rfl
    | cons a l ih => rw [List.map_cons, agL, ih]; rfl
  rw [e, so_some, frzL_isFL _ hf, hF]
  exact ⟨hk, rfl, rfl⟩
theorem call1 {F : List D → FR} {fa : DL.Env → Out D} {ρ : DL.Env} {a d : D} (ha : fa ρ = .ok a ρ) (h1 : isF a = true) (hF : F [a] = .rt d none) : dCall 1 F (dACons fa dANil) ρ = .ok d ρ := callE (ds := [a]) (ag1 ha) (by simp [isFL, h1]) rfl hF
theorem call2 {F : List D → FR} {fa fb : DL.Env → Out D} {ρ : DL.Env} {a b d : D} (ha : fa ρ = .ok a ρ) (hb : fb ρ = .ok b ρ) (h1 : isF a = true) (h2 : isF b = true) (hF : F [a, b] = .rt d none) : dCall 2 F (dACons fa (dACons fb dANil)) ρ = .ok d ρ := callE (ds := [a, b]) (ag2 ha hb) (by simp [isFL, h1, h2]) rfl hF
theorem call3 {F : List D → FR} {fa fb fc : DL.Env → Out D} {ρ : DL.Env} {a b c d : D} (ha : fa ρ = .ok a ρ) (hb : fb ρ = .ok b ρ) (hc : fc ρ = .ok c ρ) (h1 : isF a = true) (h2 : isF b = true) (h3 : isF c = true) (hF : F [a, b, c] = .rt d none) : dCall 3 F (dACons fa (dACons fb (dACons fc dANil))) ρ = .ok d ρ := callE (ds := [a, b, c]) (ag3 ha hb hc) (by simp [isFL, h1, h2, h3]) rfl hF
theorem call4 {F : List D → FR} {fa fb fc fd : DL.Env → Out D} {ρ : DL.Env} {a b c e d : D} (ha : fa ρ = .ok a ρ) (hb : fb ρ = .ok b ρ) (hc : fc ρ = .ok c ρ) (he : fd ρ = .ok e ρ) (h1 : isF a = true) (h2 : isF b = true) (h3 : isF c = true) (h4 : isF e = true) (hF : F [a, b, c, e] = .rt d none) : dCall 4 F (dACons fa (dACons fb (dACons fc (dACons fd dANil)))) ρ = .ok d ρ := callE (ds := [a, b, c, e]) (ag4 ha hb hc he) (by simp [isFL, h1, h2, h3, h4]) rfl hF
theorem cE {x : At} {ρ : DL.Env} : dC x ρ = .ok (.a x) ρ := rfl
theorem uE {g : D → Option D} {f : DL.Env → Out D} {ρ : DL.Env} {a d : D} (hf : f ρ = .ok a ρ) (h : ∀ P : D → Prop, SO (g a) P = P d) : dU g f ρ = .ok d ρ := by
  apply out_eq
  rw [w_U, hf, wo_ok, h]
  exact ⟨rfl, rfl⟩
theorem op2E {g : D → D → Option D} {f1 f2 : DL.Env → Out D} {ρ : DL.Env} {a b d : D} (h1 : f1 ρ = .ok a ρ) (h2 : f2 ρ = .ok b ρ) (h : ∀ P : D → Prop, SO (g a b) P = P d) : dOp2 g f1 f2 ρ = .ok d ρ := by
  apply out_eq
  rw [w_Op2, h1, wo_ok, h2, wo_ok, h]
  exact ⟨rfl, rfl⟩
theorem tLen {l : List Nat} {P : D → Prop} : SO (gLen (tupN l)) P = P (natD l.length) := by unfold tupN; simp [natD]
theorem eqNV {f g : DL.Env → Out D} {ρ : DL.Env} {a b : Nat} (hf : f ρ = .ok (natD a) ρ) (hg : g ρ = .ok (natD b) ρ) : dOp2 gEq f g ρ = .ok (.a (.bl (decide (a = b)))) ρ := by
  apply out_eq
  rw [w_Op2, hf, wo_ok, hg, wo_ok]
  simp [natD]
  omega
end DC
namespace DC
open PySem L2 DL
end DC
namespace DC
open PySem L2 DL
theorem ix_any {k : Kd} (hk : k = .lst ∨ k = .tup) {xs : List D} {i : Nat} {x : D} {P : D → Prop} (h : xs[i]? = some x) (hf : isF x = true) : SO (gIx (.n k false xs) (.a (.int (i : Int)))) P = P x := by
  rcases hk with rfl | rfl
  · unfold gIx
    rw [ixL h]
    simp [hf]
  · unfold gIx
    rw [ixT h]
    simp [hf]
end DC
namespace DC
open PySem L2 DL
theorem callZ {F : List D → FR} {g : DL.Env → Out (List Ag)} {ρ : DL.Env} {ds : List D} {d : D} {k : Nat} (hg : g ρ = .ok (ds.map Ag.d) ρ) (hk : ds.length = k) (hF : F (frzL ds) = .rt d none) : dCall k F g ρ = .ok d ρ := by
  apply out_eq
  rw [w_Call, hg, wo_ok]
  have e : agL (ds.map Ag.d) = some ds := by
    clear hg hk hF
    induction ds with
    | nil => rfl
    | cons a l ih => rw [List.map_cons, agL, ih]; rfl
  rw [e, so_some, hF]
  exact ⟨hk, rfl, rfl⟩
theorem gtN1 {a b : Nat} {P : D → Prop} : SO (gGt (natD a) (natD b)) P = P (.a (.bl (decide (b < a)))) := by simp [natD]
theorem ltN {a b : Nat} {P : D → Prop} : SO (gLt (natD a) (natD b)) P = P (.a (.bl (decide (a < b)))) := by simp [natD]
theorem gtE {f g : DL.Env → Out D} {ρ : DL.Env} {a b : Nat} (hf : f ρ = .ok (natD a) ρ) (hg : g ρ = .ok (natD b) ρ) : dB (dOp2 gGt f g) ρ = .ok (decide (b < a)) ρ := bE (op2E hf hg fun P => gtN1)
theorem ltE {f g : DL.Env → Out D} {ρ : DL.Env} {a b : Nat} (hf : f ρ = .ok (natD a) ρ) (hg : g ρ = .ok (natD b) ρ) : dB (dOp2 gLt f g) ρ = .ok (decide (a < b)) ρ := bE (op2E hf hg fun P => ltN)
section
variable {n : Nat} {T : Tb}
end
end DC
namespace DC
open PySem L2 DL
theorem bits_upto {m a b : Nat} (h : m < 2 ^ a) (hab : a ≤ b) : (List.range b).filter m.testBit = (List.range a).filter m.testBit := by
  obtain ⟨c, rfl⟩ := Nat.le.dest hab
  induction c with
  | zero => rfl
  | succ c ih =>
    rw [show a + (c + 1) = (a + c) + 1 by omega, List.range_succ, List.filter_append, ih (by omega)]
    have : m.testBit (a + c) = false := Nat.testBit_lt_two_pow (Nat.lt_of_lt_of_le h (Nat.pow_le_pow_right (by decide) (by omega)))
    simp [this]
theorem bits_same {m a b : Nat} (h1 : m < 2 ^ a) (h2 : m < 2 ^ b) : (List.range b).filter m.testBit = (List.range a).filter m.testBit := by
  rcases Nat.le_total a b with q | q
  · exact bits_upto h1 q
  · exact (bits_upto h2 q).symm
end DC
namespace DC
open PySem L2 DL
def ptN (N m : Nat) : List Nat := (List.range N).filter m.testBit
def ptG (N m : Nat) : D := .n .lst false ((ptN N m).map natD)
theorem isF_ptG {N m : Nat} : isF (ptG N m) = true := by unfold ptG; rw [isF_n, isFL_nat]; rfl
theorem ptN_len {N m : Nat} : (ptN N m).length ≤ N := by
  unfold ptN
  have := List.length_filter_le m.testBit (List.range N)
  rwa [List.length_range] at this
theorem mem_ptN {N m x : Nat} : x ∈ ptN N m ↔ x < N ∧ m.testBit x = true := by
  unfold ptN
  rw [List.mem_filter, List.mem_range]
theorem ninG {ρ : DL.Env} {N m x : Nat} {f g : DL.Env → Out D} (hi : f ρ = .ok (natD x) ρ) (hj : g ρ = .ok (ptG N m) ρ) (hx : x < N) : dB (dOp2 gNotIn f g) ρ = .ok (!m.testBit x) ρ :=
  bE (op2E hi hj fun P => by
    show SO (gNotIn (.a (.int (x : Int))) (.n .lst false ((ptN N m).map natD))) _ = _
    rw [o_notinN (.inl rfl)]
    congr 4
    rw [Bool.eq_iff_iff, decide_eq_true_iff, mem_ptN]
    simp [hx])
def lowG (n : Nat) (T : Tb) (m : Nat) : Bool := (ptN n m).all fun y => (List.range n).all fun x => !(T x y && !m.testBit x)
theorem tlen {n : Nat} {T : Tb} {ρ : DL.Env} {i : Nat} (h : ρ[i]? = some (some (tabD n T))) : dU gLen (dVar i) ρ = .ok (natD n) ρ := uE (var_eq h isF_tabD) fun P => by unfold tabD; simp [natD]
theorem tix {n x y : Nat} {T : Tb} {f g : DL.Env → Out D} {ρ : DL.Env} {i : Nat} (h : ρ[i]? = some (some (tabD n T))) (hf : f ρ = .ok (natD x) ρ) (hg : g ρ = .ok (natD y) ρ) (hx : x < n) (hy : y < n) : dOp2 gIx (dOp2 gIx (dVar i) f) g ρ = .ok (.a (.bl (T x y))) ρ :=
  op2E (op2E (var_eq h isF_tabD) hf fun P => g_row' hx) hg fun P => so_ixLF hy rfl
theorem is_lowerG {n m : Nat} {T : Tb} (hn : n ≤ 60) : F_law_is_lower [tabD n T, ptG n m] = .rt (.a (.bl (lowG n T m))) none := by
  apply wf_eq
  unfold F_law_is_lower
  rw [wf_fn]
  unfold B_law_is_lower
  have hl := ptN_len (N := n) (m := m)
  have hit : ∀ ρ : DL.Env, ρ[1]? = some (some (ptG n m)) → dIter (dVar 1) ρ = .ok ((ptN n m).map natD) ρ := fun ρ h => src_lst (.inl rfl) (var_eq h isF_ptG) (by omega)
  have bad : ∀ x y, x < n → y ∈ ptN n m → (T x y && !m.testBit x) = true → lowG n T m = false := fun x y hx hy h => by
    unfold lowG
    refine List.all_eq_false.mpr ⟨y, hy, ?_⟩
    intro h2
    have := List.all_eq_true.mp h2 x (List.mem_range.mpr hx)
    rw [h] at this
    cases this
  refine wp_cutK (fun ρ => ∃ (v2 v3 : Option D), ρ = [some (tabD n T), some (ptG n m), v2, v3] ∧ (lowG n T m = true)) (fun K hK => ?_) ?_
  · rw [wx, p_For, hit _ rfl, wo_ok]
    refine wp_forK (fun i ρ => ∃ (v2 v3 : Option D), ρ = [some (tabD n T), some (ptG n m), v2, v3] ∧ ∀ y ∈ (ptN n m).take i, ((List.range n).all fun x => !(T x y && !m.testBit x)) = true) ⟨none, none, rfl, by simp⟩ ?_ ?_
    · intro i d ρ hd h J hJ
      obtain ⟨v2, v3, hρ, hok⟩ := h
      subst hρ
      obtain ⟨y, hy, rfl⟩ := natD_get hd
      have hym := List.mem_of_getElem? hy
      have hyn := (mem_ptN.mp hym).1
      rw [s_tg1]
      refine ⟨by simp, ?_⟩
      rw [p_For, src_rngN (n := n) (tlen rfl) (by omega), wo_ok]
      refine wp_forK (fun k ρ => ∃ (v3 : Option D), ρ = [some (tabD n T), some (ptG n m), some (natD y), v3] ∧ ∀ x, x < k → (T x y && !m.testBit x) = false) ⟨v3, rfl, fun x h => absurd h (by omega)⟩ ?_ ?_
      · intro k d ρ hd h J2 hJ2
        obtain ⟨v3, hρ, hok2⟩ := h
        subst hρ
        obtain ⟨hk, rfl⟩ := vec_get' (f := natD) hd
        rw [s_tg1]
        refine ⟨by simp, ?_⟩
        have ha : ∀ ρ : DL.Env, ρ[0]? = some (some (tabD n T)) → ρ[1]? = some (some (ptG n m)) → ρ[2]? = some (some (natD y)) → ρ[3]? = some (some (natD k)) → dAndT (dB (dOp2 gIx (dOp2 gIx (dVar 0) (dVar 3)) (dVar 2))) (dB (dOp2 gNotIn (dVar 3) (dVar 1))) ρ = .ok (T k y && !m.testBit k) ρ := fun ρ h0 h1 h2 h3 =>
          andE (bE (tix h0 (var_eq h3 rfl) (var_eq h2 rfl) hk hyn)) fun _ => ninG (var_eq h3 rfl) (var_eq h1 isF_ptG) hk
        rw [p_If, ha _ rfl rfl rfl rfl, wo_ok]
        cases hc : (T k y && !m.testBit k) with
        | true =>
          rw [if_pos rfl, p_Bind]
          refine wo_of (cE (x := .bl false)) ?_
          exact ⟨by rw [bad k y hk hym hc], rfl⟩
        | false =>
          rw [if_neg (by decide)]
          refine hJ2 _ ⟨some (natD k), rfl, fun x hx => ?_⟩
          by_cases e : x = k
          · subst e; exact hc
          · exact hok2 x (by omega)
      · intro ρ h
        obtain ⟨v3, hρ, hok2⟩ := h
        subst hρ
        rw [range_map_len2] at hok2
        refine hJ _ ⟨some (natD y), v3, rfl, fun z hz => ?_⟩
        rw [List.take_succ, hy] at hz
        rcases List.mem_append.mp hz with q | q
        · exact hok z q
        · have : z = y := by simpa using q
          subst this
          rw [List.all_eq_true]
          intro x hx
          rw [hok2 x (List.mem_range.mp hx)]
          rfl
    · intro ρ h
      obtain ⟨v2, v3, hρ, hok⟩ := h
      subst hρ
      rw [List.length_map, List.take_length] at hok
      exact hK _ ⟨v2, v3, rfl, List.all_eq_true.mpr hok⟩
  rintro ρ ⟨v2, v3, rfl, hlo⟩
  rw [p_Bind]
  refine wo_of (cE (x := .bl true)) ?_
  exact ⟨by rw [hlo], rfl⟩
theorem src_rng2 {ρ : DL.Env} {f : DL.Env → Out D} {n : Nat} (h : f ρ = .ok (natD n) ρ) (hn : n ≤ 100000) : dRng1 f ρ = .ok ((List.range n).map natD) ρ := by
  apply out_eq
  rw [w_Rng1, h]
  simp [natD, intL_vec]
  exact ⟨by omega, rfl⟩
end DC
namespace DC
open PySem L2 DL
section
variable {n : Nat} {T : Tb} (tT : Tr n T) (iT : Irr n T) (L : IsLat n T)
include tT iT L
end
section
variable {n : Nat} {T : Tb} {c : Nat → Nat} (tT : Tr n T) (iT : Irr n T) (L : IsLat n T) (hp : Pt n c) (hc : Con n T c)
include tT iT L hp hc
end
end DC
namespace DC
open PySem L2 DL
def chs' (n : Nat) (T : Tb) : List Nat := (List.range n).filter (ji n T)
def cat (n : Nat) (T : Tb) (i : Nat) : Nat := (chs' n T).getD i 0
def cm (n : Nat) (T : Tb) : Nat := (chs' n T).length
section
variable {n : Nat} {T : Tb} (tT : Tr n T) (iT : Irr n T) (L : IsLat n T)
include tT iT L
variable (hd : ∀ x y z, x < n → y < n → z < n → mt n T x (jn n T y z) = jn n T (mt n T x y) (mt n T x z))
include hd
end
end DC
namespace DC
open PySem L2 DL
def rwL (n : Nat) (T : Tb) : Nat → List (List Nat)
  | 0 => [[]]
  | t + 1 => (rwL n T t).flatMap fun r => (fl n T (setm r)).map fun x => r ++ [x]
def rwP (n : Nat) : Nat → List (List Nat)
  | 0 => [[]]
  | t + 1 => (rwP n t).flatMap fun r => ((List.range n).filter fun x => decide (x ∉ r)).map fun x => r ++ [x]
theorem setm_snoc {r : List Nat} {x : Nat} : setm (r ++ [x]) = pt (setm r) x := by
  unfold setm
  rw [List.foldl_append]
  rfl
theorem rwL_cmp {n : Nat} {T : Tb} : ∀ (k t : Nat), ((rwL n T t).flatMap fun r => (cmp n T k (setm r)).map fun s => r ++ s) = rwL n T (t + k)
  | 0, t => by
    have : (fun r : List Nat => (cmp n T 0 (setm r)).map fun s => r ++ s) = fun r => [r] := by
      funext r
      show [r ++ []] = [r]
      rw [List.append_nil]
    rw [this]
    simp
  | k + 1, t => by
    have h := rwL_cmp (n := n) (T := T) k (t + 1)
    rw [show t + 1 + k = t + (k + 1) by omega] at h
    rw [← h]
    show _ = ((rwL n T t).flatMap fun r => (fl n T (setm r)).map fun x => r ++ [x]).flatMap _
    rw [List.flatMap_assoc]
    congr 1
    funext r
    show ((fl n T (setm r)).flatMap fun x => (cmp n T k (pt (setm r) x)).map fun s => x :: s).map (fun s => r ++ s) = _
    rw [List.map_flatMap, List.flatMap_map]
    congr 1
    funext x
    rw [List.map_map, setm_snoc]
    refine List.map_congr_left fun s _ => ?_
    simp
theorem rwL_all {n : Nat} {T : Tb} : rwL n T n = cmp n T n 0 := by
  have h := rwL_cmp (n := n) (T := T) n 0
  rw [Nat.zero_add] at h
  rw [← h]
  show ([[]] : List (List Nat)).flatMap _ = _
  rw [List.flatMap_cons, List.flatMap_nil, List.append_nil]
  show (cmp n T n 0).map (fun s => [] ++ s) = _
  simp
def good (n : Nat) (T : Tb) (r : List Nat) : Prop := r.Pairwise (fun a b => T b a = false) ∧ ∀ y ∈ r, ∀ z, z < n → T z y = true → z ∈ r
theorem good_snoc {n x : Nat} {T : Tb} {r : List Nat} (iT : Irr n T) (hx : x < n) (hr : ∀ y ∈ r, y < n) (hxr : x ∉ r) : good n T (r ++ [x]) ↔ good n T r ∧ ∀ z, z < n → T z x = true → z ∈ r := by
  unfold good
  rw [List.pairwise_append]
  constructor
  · rintro ⟨⟨h1, _, h2⟩, h3⟩
    have h4 : ∀ a ∈ r, T x a = false := fun a ha => h2 a ha x (by simp)
    refine ⟨⟨h1, fun y hy z hz hT => ?_⟩, fun z hz hT => ?_⟩
    · have := h3 y (by simp [hy]) z hz hT
      rcases List.mem_append.mp this with h | h
      · exact h
      · have : z = x := by simpa using h
        subst this
        rw [h4 y hy] at hT; cases hT
    · have := h3 x (by simp) z hz hT
      rcases List.mem_append.mp this with h | h
      · exact h
      · have : z = x := by simpa using h
        subst this
        rw [iT z hz] at hT; cases hT
  · rintro ⟨⟨h1, h3⟩, h5⟩
    refine ⟨⟨h1, List.pairwise_singleton _ _, fun a ha b hb => ?_⟩, fun y hy z hz hT => ?_⟩
    · have : b = x := by simpa using hb
      subst this
      cases h : T b a with
      | false => rfl
      | true => exact absurd (h3 a ha b hx h) hxr
    · rcases List.mem_append.mp hy with h | h
      · exact List.mem_append_left _ (h3 y h z hz hT)
      · have : y = x := by simpa using h
        subst this
        exact List.mem_append_left _ (h5 z hz hT)
theorem rwP_ok {n : Nat} : ∀ {t : Nat} {r : List Nat}, r ∈ rwP n t → r.length = t ∧ r.Nodup ∧ ∀ y ∈ r, y < n
  | 0, r, h => by
    have : r = [] := by simpa [rwP] using h
    subst this
    exact ⟨rfl, .nil, fun y hy => by cases hy⟩
  | t + 1, r, h => by
    obtain ⟨r', h1, h2⟩ := List.mem_flatMap.mp h
    obtain ⟨x, hx, rfl⟩ := List.mem_map.mp h2
    obtain ⟨hx1, hx2⟩ := List.mem_filter.mp hx
    obtain ⟨a, b, c⟩ := rwP_ok h1
    have hx3 : x ∉ r' := by simpa using hx2
    refine ⟨by rw [List.length_append, a]; rfl, List.nodup_append.mpr ⟨b, by simp, fun u hu v hv e => ?_⟩, fun y hy => ?_⟩
    · have : v = x := by simpa using hv
      subst this; subst e; exact hx3 hu
    · rcases List.mem_append.mp hy with h | h
      · exact c y h
      · have : y = x := by simpa using h
        subst this; exact List.mem_range.mp hx1
open Classical in
theorem rwP_good {n : Nat} {T : Tb} (iT : Irr n T) : ∀ t, (rwP n t).filter (fun r => decide (good n T r)) = rwL n T t
  | 0 => by
    have : good n T [] := ⟨.nil, fun y hy => by cases hy⟩
    simp [rwP, rwL, this]
  | t + 1 => by
    show ((rwP n t).flatMap fun r => ((List.range n).filter fun x => decide (x ∉ r)).map fun x => r ++ [x]).filter _ = (rwL n T t).flatMap _
    rw [← rwP_good iT t, List.filter_flatMap]
    have key : ∀ l : List (List Nat), (∀ r ∈ l, r ∈ rwP n t) → (l.flatMap fun r => (((List.range n).filter fun x => decide (x ∉ r)).map fun x => r ++ [x]).filter fun r => decide (good n T r)) = (l.filter fun r => decide (good n T r)).flatMap fun r => (fl n T (setm r)).map fun x => r ++ [x] := by
      intro l
      induction l with
      | nil => intro _; rfl
      | cons r l ih =>
        intro hl
        rw [List.flatMap_cons, ih fun r hr => hl r (List.mem_cons_of_mem _ hr)]
        obtain ⟨_, hnd, hlt⟩ := rwP_ok (hl r (by simp))
        have e : ((((List.range n).filter fun x => decide (x ∉ r)).map fun x => r ++ [x]).filter fun r => decide (good n T r)) = if good n T r then (fl n T (setm r)).map (fun x => r ++ [x]) else [] := by
          rw [List.filter_map, List.filter_filter]
          by_cases hg : good n T r
          · rw [if_pos hg]
            congr 1
            unfold fl
            refine List.filter_congr fun x hx => ?_
            have hxn := List.mem_range.mp hx
            rw [Bool.eq_iff_iff]
            simp only [Function.comp, Bool.and_eq_true, decide_eq_true_eq, setm_bit, Bool.not_eq_true', decide_eq_false_iff_not, List.all_eq_true]
            constructor
            · rintro ⟨h1, h2⟩
              refine ⟨h2, fun z hz => ?_⟩
              have := ((good_snoc iT hxn hlt h2).mp h1).2 z (List.mem_range.mp hz)
              cases hT : T z x with
              | false => rfl
              | true => simp [this hT]
            · rintro ⟨h2, h3⟩
              refine ⟨(good_snoc iT hxn hlt h2).mpr ⟨hg, fun z hz hT => ?_⟩, h2⟩
              have := h3 z (List.mem_range.mpr hz)
              simpa [hT] using this
          · rw [if_neg hg]
            rw [List.filter_eq_nil_iff.mpr, List.map_nil]
            intro x hx
            have hxn := List.mem_range.mp hx
            simp only [Function.comp, Bool.and_eq_true, decide_eq_true_eq]
            rintro ⟨h1, h2⟩
            exact hg ((good_snoc iT hxn hlt h2).mp h1).1
        rw [e, List.filter_cons]
        by_cases hg : good n T r
        · simp [hg]
        · simp [hg]
    exact key _ fun r hr => hr
theorem perm_full {n : Nat} {r : List Nat} (h : r.length = n) (hnd : r.Nodup) (hlt : ∀ y ∈ r, y < n) {z : Nat} (hz : z < n) : z ∈ r := by
  have hsub : r.Subset (List.range n) := fun y hy => List.mem_range.mpr (hlt y hy)
  false_or_by_contra
  rename_i hn
  have : (z :: r).length ≤ (List.range n).length := (List.nodup_cons.mpr ⟨hn, hnd⟩).length_le_of_subset fun y hy => by
    rcases List.mem_cons.mp hy with rfl | hy
    · exact List.mem_range.mpr hz
    · exact hsub hy
  simp at this
  omega
def fitB (T : Tb) (r : List Nat) : Bool := decide (r.Pairwise fun a b => T b a = false)
theorem rwP_fit {n : Nat} {T : Tb} (iT : Irr n T) : (rwP n n).filter (fitB T) = cmp n T n 0 := by
  classical
  rw [← rwL_all, ← rwP_good iT n]
  refine List.filter_congr fun r hr => ?_
  obtain ⟨h1, h2, h3⟩ := rwP_ok hr
  unfold fitB
  refine decide_eq_decide.mpr ⟨fun h => ⟨h, fun y hy z hz _ => perm_full h1 h2 h3 hz⟩, fun h => h.1⟩
def rk (n : Nat) (T : Tb) : Nat → List Nat → Int
  | _, [] => 0
  | F, y :: s => ls ((fl n T F).filter fun x => decide (x < y)) (fun x => Wv n T (pt F x)) + rk n T (pt F y) s
end DC
namespace DC
open PySem L2 DL
theorem cmp_cons {n m F y : Nat} {T : Tb} {s : List Nat} : (y :: s) ∈ cmp n T (m + 1) F ↔ y ∈ fl n T F ∧ s ∈ cmp n T m (pt F y) := by
  show (y :: s) ∈ (fl n T F).flatMap _ ↔ _
  rw [List.mem_flatMap]
  constructor
  · rintro ⟨x, hx, h⟩
    obtain ⟨s', hs, e⟩ := List.mem_map.mp h
    injection e with e1 e2
    subst e1 e2
    exact ⟨hx, hs⟩
  · rintro ⟨h1, h2⟩
    exact ⟨y, h1, List.mem_map.mpr ⟨s, h2, rfl⟩⟩
end DC
namespace DC
open PySem L2 DL
structure Pm (n : Nat) (r : List Nat) : Prop where
  len : r.length = n
  nd : r.Nodup
  lt : ∀ y ∈ r, y < n
theorem Pm.perm {n : Nat} {r : List Nat} (h : Pm n r) : r.Perm (List.range n) := (List.perm_ext_iff_of_nodup h.nd List.nodup_range).mpr fun z => ⟨fun hz => List.mem_range.mpr (h.lt z hz), fun hz => perm_full h.len h.nd h.lt (List.mem_range.mp hz)⟩
end DC
namespace DC
open PySem L2 DL
end DC
namespace DC
open PySem L2 DL
theorem add_tup2 {r : List Nat} {y : Nat} {P : D → Prop} (h : r.length ≤ 1000) : SO (gAdd (tupN r) (.n .tup false [natD y])) P = P (tupN (r ++ [y])) := by
  unfold tupN
  rw [catT (by simp) (by rfl) (by simp; omega), List.map_append]
  rfl
theorem rwL_ok {n : Nat} {T : Tb} (iT : Irr n T) {t : Nat} {r : List Nat} (h : r ∈ rwL n T t) : r.length = t ∧ r.Nodup ∧ ∀ y ∈ r, y < n := by
  classical
  rw [← rwP_good iT t] at h
  exact rwP_ok (List.mem_filter.mp h).1
end DC
namespace DC
open PySem L2 DL
end DC
namespace DC
open PySem L2 DL
end DC
set_option pp.maxSteps 1500
namespace DC
open PySem L2 DL
def bef (r : List Nat) (x y : Nat) : Bool := decide (r.idxOf x < r.idxOf y)
theorem Pm.idx {n x : Nat} {r : List Nat} (h : Pm n r) (hx : x < n) : r.idxOf x < n := by
  have := List.idxOf_lt_length_of_mem (perm_full h.len h.nd h.lt hx)
  rw [h.len] at this
  exact this
theorem Pm.at_ {n x : Nat} {r : List Nat} (h : Pm n r) (hx : x < n) : r[r.idxOf x]? = some x := by
  have hm := perm_full h.len h.nd h.lt hx
  rw [List.getElem?_eq_getElem (List.idxOf_lt_length_of_mem hm), List.getElem_idxOf]
theorem Pm.inj {n x y : Nat} {r : List Nat} (h : Pm n r) (hx : x < n) (hy : y < n) (e : r.idxOf x = r.idxOf y) : x = y := by
  have h1 := h.at_ hx
  rw [e, h.at_ hy] at h1
  exact (Option.some.inj h1).symm
theorem fit_idx {n : Nat} {T : Tb} {r : List Nat} (iT : Irr n T) (h : Pm n r) : fitB T r = true ↔ ∀ u v, u < n → v < n → T u v = true → bef r u v = true := by
  unfold fitB bef
  rw [decide_eq_true_eq, List.pairwise_iff_getElem]
  constructor
  · intro q u v hu hv e
    rw [decide_eq_true_eq]
    false_or_by_contra
    rename_i hn
    rcases Nat.lt_or_ge (r.idxOf v) (r.idxOf u) with hl | hl
    · have h1 := h.idx hu
      have h2 := h.idx hv
      have := q (r.idxOf v) (r.idxOf u) (by rw [h.len]; exact h2) (by rw [h.len]; exact h1) hl
      rw [List.getElem_idxOf, List.getElem_idxOf, e] at this
      cases this
    · have e2 := h.inj hu hv (by omega)
      subst e2
      rw [iT u hu] at e
      cases e
  · intro q i j hi hj hij
    cases e : T r[j] r[i] with
    | false => rfl
    | true =>
      have := q r[j] r[i] (h.lt _ (List.getElem_mem _)) (h.lt _ (List.getElem_mem _)) e
      rw [decide_eq_true_eq, h.nd.idxOf_getElem j hj, h.nd.idxOf_getElem i hi] at this
      omega
theorem rwP_pm {n : Nat} {r : List Nat} (h : r ∈ rwP n n) : Pm n r := by
  obtain ⟨h1, h2, h3⟩ := rwP_ok h
  exact ⟨h1, h2, h3⟩
theorem cmp_pm {n : Nat} {T : Tb} {r : List Nat} (iT : Irr n T) (h : r ∈ cmp n T n 0) : Pm n r ∧ fitB T r = true := by
  rw [← rwP_fit iT] at h
  obtain ⟨h1, h2⟩ := List.mem_filter.mp h
  exact ⟨rwP_pm h1, h2⟩
def add1 (T : Tb) (x y : Nat) : Tb := fun u v => T u v || ((decide (u = x) || T u x) && (decide (v = y) || T y v))
theorem add1_iff {T : Tb} {x y u v : Nat} : add1 T x y u v = true ↔ T u v = true ∨ (u = x ∨ T u x = true) ∧ (v = y ∨ T y v = true) := by
  unfold add1
  simp
theorem add1_tr {n x y : Nat} {T : Tb} (tT : Tr n T) (hx : x < n) (hy : y < n) (hne : x ≠ y) (hyx : T y x = false) : Tr n (add1 T x y) := by
  intro a b c ha hb hc h1 h2
  rw [add1_iff] at h1 h2 ⊢
  have no : ∀ {b}, b < n → (b = y ∨ T y b = true) → (b = x ∨ T b x = true) → False := by
    intro b hb p q
    rcases p with rfl | p <;> rcases q with rfl | q
    · exact hne rfl
    · rw [hyx] at q; cases q
    · rw [hyx] at p; cases p
    · have := tT y b x hy hb hx p q
      rw [hyx] at this; cases this
  rcases h1 with h1 | ⟨p1, q1⟩
  · rcases h2 with h2 | ⟨p2, q2⟩
    · exact .inl (tT a b c ha hb hc h1 h2)
    · refine .inr ⟨.inr ?_, q2⟩
      rcases p2 with rfl | p2
      · exact h1
      · exact tT a b x ha hb hx h1 p2
  · rcases h2 with h2 | ⟨p2, q2⟩
    · refine .inr ⟨p1, .inr ?_⟩
      rcases q1 with rfl | q1
      · exact h2
      · exact tT y b c hy hb hc q1 h2
    · exact (no hb q1 p2).elim
theorem add1_irr {n x y : Nat} {T : Tb} (tT : Tr n T) (iT : Irr n T) (hx : x < n) (hy : y < n) (hne : x ≠ y) (hyx : T y x = false) : Irr n (add1 T x y) := by
  intro a ha
  cases e : add1 T x y a a with
  | false => rfl
  | true =>
    rw [add1_iff] at e
    rcases e with e | ⟨p, q⟩
    · rw [iT a ha] at e; cases e
    · rcases p with rfl | p <;> rcases q with rfl | q
      · exact absurd rfl hne
      · rw [hyx] at q; cases q
      · rw [hyx] at p; cases p
      · have := tT y a x hy ha hx q p
        rw [hyx] at this; cases this
theorem add1_fit {n x y : Nat} {T : Tb} {r : List Nat} (tT : Tr n T) (iT : Irr n T) (hx : x < n) (hy : y < n) (hne : x ≠ y) (hyx : T y x = false) (h : Pm n r) : fitB (add1 T x y) r = (fitB T r && bef r x y) := by
  rw [Bool.eq_iff_iff, Bool.and_eq_true, fit_idx (add1_irr tT iT hx hy hne hyx) h, fit_idx iT h]
  constructor
  · intro q
    exact ⟨fun u v hu hv e => q u v hu hv (add1_iff.mpr (.inl e)), q x y hx hy (add1_iff.mpr (.inr ⟨.inl rfl, .inl rfl⟩))⟩
  · rintro ⟨q1, q2⟩ u v hu hv e
    have le1 : (u = x ∨ T u x = true) → r.idxOf u ≤ r.idxOf x := fun p => by
      rcases p with rfl | p
      · exact Nat.le_refl _
      · exact Nat.le_of_lt (by simpa [bef] using q1 u x hu hx p)
    have le2 : (v = y ∨ T y v = true) → r.idxOf y ≤ r.idxOf v := fun p => by
      rcases p with rfl | p
      · exact Nat.le_refl _
      · exact Nat.le_of_lt (by simpa [bef] using q1 y v hy hv p)
    rcases add1_iff.mp e with e | ⟨p, q⟩
    · exact q1 u v hu hv e
    · have h0 : r.idxOf x < r.idxOf y := by simpa [bef] using q2
      have := le1 p
      have := le2 q
      unfold bef
      exact decide_eq_true (by omega)
theorem add1_cmp {n x y : Nat} {T : Tb} (tT : Tr n T) (iT : Irr n T) (hx : x < n) (hy : y < n) (hne : x ≠ y) (hyx : T y x = false) : cmp n (add1 T x y) n 0 = (cmp n T n 0).filter fun r => bef r x y := by
  rw [← rwP_fit (add1_irr tT iT hx hy hne hyx), ← rwP_fit iT, List.filter_filter]
  refine List.filter_congr fun r hr => ?_
  rw [add1_fit tT iT hx hy hne hyx (rwP_pm hr), Bool.and_comm]
theorem cmp_ex {n : Nat} {T : Tb} (tT : Tr n T) (iT : Irr n T) : ∀ {m F : Nat}, bits n F + m = n → ∃ s, s ∈ cmp n T m F
  | 0, F, _ => ⟨[], by simp [cmp]⟩
  | m + 1, F, h => by
    have hne : ((List.range n).filter fun x => !F.testBit x) ≠ [] := by
      intro e
      have h1 : ((List.range n).filter F.testBit).length = n := by
        rw [List.filter_eq_self.mpr ?_, List.length_range]
        intro a ha
        have := List.filter_eq_nil_iff.mp e a ha
        simpa using this
      unfold bits at h
      omega
    obtain ⟨a, ha, hmin⟩ := minimal_ex tT iT (r := (List.range n).filter fun x => !F.testBit x) (fun z hz => List.mem_range.mp (List.mem_filter.mp hz).1) hne
    obtain ⟨ha1, ha2⟩ := List.mem_filter.mp ha
    have hal := List.mem_range.mp ha1
    have hF : F.testBit a = false := by simpa using ha2
    have hfl : a ∈ fl n T F := mem_fl.mpr ⟨hal, hF, fun z hz e => by
      cases hb : F.testBit z with
      | true => rfl
      | false =>
        have := hmin z (List.mem_filter.mpr ⟨List.mem_range.mpr hz, by simp [hb]⟩)
        rw [this] at e; cases e⟩
    obtain ⟨s, hs⟩ := cmp_ex tT iT (m := m) (F := pt F a) (by rw [bits_pt hal hF]; omega)
    exact ⟨a :: s, cmp_cons.mpr ⟨hfl, hs⟩⟩
theorem ways_against {n x y : Nat} {T : Tb} (tT : Tr n T) (iT : Irr n T) (hx : x < n) (hy : y < n) (hne : x ≠ y) (hxy : T x y = false) : ∃ r ∈ cmp n T n 0, bef r x y = false := by
  obtain ⟨s, hs⟩ := cmp_ex (add1_tr tT hy hx (Ne.symm hne) hxy) (add1_irr tT iT hy hx (Ne.symm hne) hxy) (m := n) (F := 0) (by rw [bits_zero]; omega)
  rw [add1_cmp tT iT hy hx (Ne.symm hne) hxy] at hs
  obtain ⟨h1, h2⟩ := List.mem_filter.mp hs
  refine ⟨s, h1, ?_⟩
  have h3 : s.idxOf y < s.idxOf x := by simpa [bef] using h2
  unfold bef
  exact decide_eq_false (by omega)
end DC
set_option pp.maxSteps 1500
namespace DC
open PySem L2 DL
def ltR : List Nat → List Nat → Bool
  | _, [] => false
  | [], _ :: _ => true
  | a :: as, b :: bs => if a = b then ltR as bs else decide (a < b)
theorem ltR_irr : ∀ a : List Nat, ltR a a = false
  | [] => rfl
  | a :: as => by
    show (if a = a then ltR as as else _) = false
    rw [if_pos rfl, ltR_irr as]
theorem ltR_tr : ∀ {a b c : List Nat}, ltR a b = true → ltR b c = true → ltR a c = true
  | [], [], _, h, _ => by cases h
  | _ :: _, [], _, h, _ => by cases h
  | _, _ :: _, [], _, h => by cases h
  | [], _ :: _, _ :: _, _, _ => rfl
  | a :: as, b :: bs, c :: cs, h1, h2 => by
    have h1 : (if a = b then ltR as bs else decide (a < b)) = true := h1
    have h2 : (if b = c then ltR bs cs else decide (b < c)) = true := h2
    show (if a = c then ltR as cs else decide (a < c)) = true
    by_cases e1 : a = b
    · rw [if_pos e1] at h1
      by_cases e2 : b = c
      · rw [if_pos e2] at h2
        rw [if_pos (e1.trans e2)]
        exact ltR_tr h1 h2
      · rw [if_neg e2, decide_eq_true_eq] at h2
        rw [if_neg (by omega), decide_eq_true_eq]
        omega
    · rw [if_neg e1, decide_eq_true_eq] at h1
      by_cases e2 : b = c
      · rw [if_neg (by omega), decide_eq_true_eq]
        omega
      · rw [if_neg e2, decide_eq_true_eq] at h2
        rw [if_neg (by omega), decide_eq_true_eq]
        omega
theorem ltR_tot : ∀ {a b : List Nat}, a.length = b.length → a ≠ b → ltR a b = true ∨ ltR b a = true
  | [], [], _, h => absurd rfl h
  | [], _ :: _, h, _ => by cases h
  | _ :: _, [], h, _ => by cases h
  | a :: as, b :: bs, hl, h => by
    by_cases e : a = b
    · subst e
      have := ltR_tot (a := as) (b := bs) (by simpa using hl) (fun q => h (by rw [q]))
      show (if a = a then ltR as bs else _) = true ∨ (if a = a then ltR bs as else _) = true
      rw [if_pos rfl, if_pos rfl]
      exact this
    · show (if a = b then _ else decide (a < b)) = true ∨ (if b = a then _ else decide (b < a)) = true
      rw [if_neg e, if_neg (Ne.symm e), decide_eq_true_eq, decide_eq_true_eq]
      omega
theorem cmp_sorted {n : Nat} {T : Tb} : ∀ (m F : Nat), (cmp n T m F).Pairwise (fun a b => ltR a b = true)
  | 0, F => by simp [cmp]
  | m + 1, F => by
    have key : ∀ l : List Nat, l.Pairwise (· < ·) → (l.flatMap fun x => (cmp n T m (pt F x)).map fun r => x :: r).Pairwise (fun a b => ltR a b = true) := by
      intro l
      induction l with
      | nil => intro _; exact List.Pairwise.nil
      | cons x l ih =>
        intro h
        have h' := List.pairwise_cons.mp h
        rw [List.flatMap_cons, List.pairwise_append]
        refine ⟨?_, ih h'.2, fun a ha b hb => ?_⟩
        · rw [List.pairwise_map]
          refine (cmp_sorted m (pt F x)).imp fun {a b} hab => ?_
          show (if x = x then ltR a b else _) = true
          rw [if_pos rfl]; exact hab
        · obtain ⟨a', _, rfl⟩ := List.mem_map.mp ha
          obtain ⟨y, hy, hb⟩ := List.mem_flatMap.mp hb
          obtain ⟨b', _, rfl⟩ := List.mem_map.mp hb
          have := h'.1 y hy
          show (if x = y then _ else decide (x < y)) = true
          rw [if_neg (by omega), decide_eq_true_eq]
          exact this
    exact key _ fl_asc
abbrev Prs := List (Nat × Nat)
def leftP (ps : Prs) (r : List Nat) : Prs := ps.filter fun p => bef r p.2 p.1
def okP (ps : Prs) (r : List Nat) : Bool := ps.all fun p => bef r p.1 p.2
def lastP (R : List (List Nat)) (ps : Prs) : Option (List Nat) := R.find? (okP ps)
def adm (ch : List (List Nat)) (r : List Nat) : Bool := match ch.getLast? with
  | none => true
  | some c => ltR c r
def firstS (f : List Nat → Option (List (List Nat))) : List (List Nat) → Option (List (List Nat))
  | [] => none
  | r :: rs => match f r with
    | some x => some x
    | none => firstS f rs
def ext (R : List (List Nat)) : Nat → List (List Nat) → Prs → Option (List (List Nat))
  | 0, ch, ps => (lastP R ps).map fun z => ch ++ [z]
  | k + 1, ch, ps => firstS (fun r => if adm ch r = true then ext R k (ch ++ [r]) (leftP ps r) else none) R
theorem firstS_some {f : List Nat → Option (List (List Nat))} : ∀ {R : List (List Nat)} {x : List (List Nat)}, R.Pairwise (fun a b => ltR a b = true) → firstS f R = some x → ∃ r ∈ R, f r = some x ∧ ∀ s ∈ R, ltR s r = true → f s = none
  | [], x, _, h => by cases h
  | r :: rs, x, hp, h => by
    have hp' := List.pairwise_cons.mp hp
    unfold firstS at h
    cases e : f r with
    | some y =>
      rw [e] at h
      cases h
      refine ⟨r, by simp, e, fun s hs hl => ?_⟩
      rcases List.mem_cons.mp hs with rfl | hs
      · rw [ltR_irr] at hl; cases hl
      · have := ltR_tr hl (hp'.1 s hs)
        rw [ltR_irr] at this; cases this
    | none =>
      rw [e] at h
      obtain ⟨q, hq, h1, h2⟩ := firstS_some hp'.2 h
      refine ⟨q, by simp [hq], h1, fun s hs hl => ?_⟩
      rcases List.mem_cons.mp hs with rfl | hs
      · exact e
      · exact h2 s hs hl
theorem firstS_ne {f : List Nat → Option (List (List Nat))} {r : List Nat} : ∀ {R : List (List Nat)}, r ∈ R → f r ≠ none → firstS f R ≠ none
  | [], h, _ => by cases h
  | s :: rs, h, hf => by
    unfold firstS
    cases e : f s with
    | some y => simp
    | none =>
      dsimp only
      rcases List.mem_cons.mp h with rfl | h
      · exact absurd e hf
      · exact firstS_ne h hf
def Cov2 (ps : Prs) (cs : List (List Nat)) : Prop := ∀ p ∈ ps, ∃ r ∈ cs, bef r p.1 p.2 = true
def Tells (R : List (List Nat)) (ps : Prs) : Prop := ∀ r ∈ R, ∀ p ∈ ps, bef r p.1 p.2 = true ∨ bef r p.2 p.1 = true
theorem bef_asym {r : List Nat} {x y : Nat} (h : bef r x y = true) : bef r y x = false := by
  unfold bef at h ⊢
  rw [decide_eq_true_eq] at h
  exact decide_eq_false (by omega)
theorem Tells.left {R : List (List Nat)} {ps : Prs} {r : List Nat} (h : Tells R ps) : Tells R (leftP ps r) := fun s hs p hp => h s hs p (List.mem_filter.mp hp).1
theorem cov_cons {R : List (List Nat)} {ps : Prs} {r : List Nat} {cs : List (List Nat)} (ht : Tells R ps) (hr : r ∈ R) : Cov2 (leftP ps r) cs ↔ Cov2 ps (r :: cs) := by
  constructor
  · intro h p hp
    rcases ht r hr p hp with e | e
    · exact ⟨r, by simp, e⟩
    · obtain ⟨s, hs, h2⟩ := h p (List.mem_filter.mpr ⟨hp, e⟩)
      exact ⟨s, by simp [hs], h2⟩
  · intro h p hp
    obtain ⟨h1, h2⟩ := List.mem_filter.mp hp
    obtain ⟨s, hs, h3⟩ := h p h1
    rcases List.mem_cons.mp hs with rfl | hs
    · rw [bef_asym h3] at h2; cases h2
    · exact ⟨s, hs, h3⟩
theorem okP_iff {ps : Prs} {r : List Nat} : okP ps r = true ↔ Cov2 ps [r] := by
  unfold okP Cov2
  simp
theorem ext_ok {R : List (List Nat)} (hR : R.Pairwise fun a b => ltR a b = true) : ∀ {k : Nat} {ch : List (List Nat)} {ps : Prs} {res : List (List Nat)}, Tells R ps → ext R k ch ps = some res →
    ∃ cs z, res = ch ++ cs ++ [z] ∧ cs.length = k ∧ (∀ r ∈ cs, r ∈ R) ∧ z ∈ R ∧ Cov2 ps (cs ++ [z]) ∧ cs.Pairwise (fun a b => ltR a b = true) ∧ (∀ r, cs.head? = some r → adm ch r = true)
  | 0, ch, ps, res, ht, h => by
    unfold ext at h
    obtain ⟨z, hz, rfl⟩ := Option.map_eq_some_iff.mp h
    unfold lastP at hz
    exact ⟨[], z, by simp, rfl, (fun r hr => nomatch hr), List.mem_of_find?_eq_some hz, okP_iff.mp (List.find?_some hz), List.Pairwise.nil, fun r hr => by cases hr⟩
  | k + 1, ch, ps, res, ht, h => by
    unfold ext at h
    obtain ⟨r, hr, h1, h2⟩ := firstS_some hR h
    split at h1
    · rename_i ha
      obtain ⟨cs, z, e, hl, hcs, hz, hc, hp, hh⟩ := ext_ok hR ht.left h1
      refine ⟨r :: cs, z, by rw [e]; simp, by simp [hl], fun s hs => ?_, hz, (cov_cons ht hr).mp hc, List.pairwise_cons.mpr ⟨fun s hs => ?_, hp⟩, fun s hs => by cases hs; exact ha⟩
      · rcases List.mem_cons.mp hs with rfl | hs
        · exact hr
        · exact hcs s hs
      · cases cs with
        | nil => cases hs
        | cons c cs' =>
          have hc0 : ltR r c = true := by
            have := hh c rfl
            simpa [adm] using this
          rcases List.mem_cons.mp hs with rfl | hs
          · exact hc0
          · exact ltR_tr hc0 ((List.pairwise_cons.mp hp).1 s hs)
    · cases h1
theorem ext_ne {R : List (List Nat)} : ∀ {k : Nat} {ch : List (List Nat)} {ps : Prs} {cs : List (List Nat)} {z : List Nat}, Tells R ps → cs.length = k → (∀ r ∈ cs, r ∈ R) → z ∈ R → Cov2 ps (cs ++ [z]) → cs.Pairwise (fun a b => ltR a b = true) →
    (∀ r, cs.head? = some r → adm ch r = true) → ext R k ch ps ≠ none
  | 0, ch, ps, cs, z, ht, hl, _, hz, hc, _, _ => by
    have e : cs = [] := List.length_eq_zero_iff.mp hl
    subst e
    unfold ext lastP
    intro h
    have h := Option.map_eq_none_iff.mp h
    rw [List.find?_eq_none] at h
    exact h z hz (okP_iff.mpr hc)
  | k + 1, ch, ps, [], z, ht, hl, _, _, _, _, _ => by cases hl
  | k + 1, ch, ps, r :: cs, z, ht, hl, hcs, hz, hc, hp, hh => by
    unfold ext
    have hr := hcs r (by simp)
    have hp' := List.pairwise_cons.mp hp
    refine firstS_ne hr ?_
    rw [if_pos (hh r rfl)]
    refine ext_ne (cs := cs) (z := z) ht.left (by simpa using hl) (fun s hs => hcs s (by simp [hs])) hz ((cov_cons ht hr).mpr hc) hp'.2 fun s hs => ?_
    have : ltR r s = true := hp'.1 s (List.mem_of_mem_head? hs)
    simpa [adm] using this
theorem cov_mem {ps : Prs} {a b : List (List Nat)} (h : Cov2 ps a) (hs : ∀ r ∈ a, r ∈ b) : Cov2 ps b := fun p hp => by
  obtain ⟨r, hr, e⟩ := h p hp
  exact ⟨r, hs r hr, e⟩
theorem split_last {α : Type} : ∀ {l : List α}, l ≠ [] → ∃ l' z, l = l' ++ [z]
  | l, h => ⟨l.dropLast, l.getLast h, (List.dropLast_concat_getLast h).symm⟩
theorem ext_asc {R : List (List Nat)} {n : Nat} (hR : R.Pairwise fun a b => ltR a b = true) (hn : ∀ r ∈ R, r.length = n) : ∀ {k : Nat} {ch : List (List Nat)} {ps : Prs} {cs : List (List Nat)} {z : List Nat}, Tells R ps → ext R k ch ps = some (ch ++ cs ++ [z]) → cs.length = k →
    adm ch z = true → z ∉ cs → (cs ++ [z]).Pairwise (fun a b => ltR a b = true)
  | 0, ch, ps, cs, z, ht, h, hl, _, _ => by
    have e : cs = [] := List.length_eq_zero_iff.mp hl
    subst e
    simp
  | k + 1, ch, ps, [], z, ht, h, hl, _, _ => by cases hl
  | k + 1, ch, ps, r :: cs, z, ht, h, hl, ha, hz => by
    obtain ⟨cs2, z2, e2, l2, m2, hzR, hcov, hasc, hhd⟩ := ext_ok hR ht h
    have e3 : (r :: cs) ++ [z] = cs2 ++ [z2] := by
      rw [List.append_assoc, List.append_assoc] at e2
      exact List.append_cancel_left e2
    obtain ⟨e4, e5⟩ := List.append_inj' e3 rfl
    subst e4
    have e5 : z = z2 := by simpa using e5
    subst e5
    have h0 := h
    unfold ext at h0
    obtain ⟨r', hr', h1, h2⟩ := firstS_some hR h0
    split at h1
    · rename_i ha'
      obtain ⟨cs3, z3, e6, l3, _⟩ := ext_ok hR ht.left h1
      have e7 : r :: (cs ++ [z]) = r' :: (cs3 ++ [z3]) := by
        have : ch ++ (r :: (cs ++ [z])) = ch ++ (r' :: (cs3 ++ [z3])) := by
          have := e6
          simp only [List.append_assoc, List.cons_append, List.nil_append] at this ⊢
          exact this
        exact List.append_cancel_left this
      injection e7 with e8 e9
      subst e8
      have hrz : r ≠ z := fun e => hz (by simp [e])
      have hrR := m2 r (by simp)
      rcases ltR_tot ((hn r hrR).trans (hn z hzR).symm) hrz with hlt | hlt
      · have ih := ext_asc hR hn (k := k) (ch := ch ++ [r]) (ps := leftP ps r) (cs := cs) (z := z) ht.left (by rw [h1]; simp) (by simpa using hl) (by simpa [adm] using hlt) (fun m => hz (by simp [m]))
        show (r :: (cs ++ [z])).Pairwise _
        refine List.pairwise_cons.mpr ⟨fun s hs => ?_, ih⟩
        rcases List.mem_append.mp hs with m | m
        · exact (List.pairwise_cons.mp hasc).1 s m
        · have : s = z := by simpa using m
          subst this; exact hlt
      · exfalso
        have hno := h2 z hzR hlt
        rw [if_pos ha] at hno
        obtain ⟨as, w, ew⟩ := split_last (l := r :: cs) (by simp)
        have hwm : ∀ s, s ∈ as ++ [w] → s ∈ R := fun s hs => m2 s (by rw [ew]; exact hs)
        have lw : as.length = k := by
          have := congrArg List.length ew
          simp at this hl
          omega
        have hcz : Cov2 ps (z :: (as ++ [w])) := cov_mem hcov fun s hs => by
          rw [ew] at hs
          rcases List.mem_append.mp hs with m | m
          · simp only [List.mem_cons]; exact .inr m
          · have : s = z := by simpa using m
            simp [this]
        refine ext_ne (R := R) (k := k) (ch := ch ++ [z]) (ps := leftP ps z) (cs := as) (z := w) ht.left lw (fun s hs => hwm s (by simp [hs])) (hwm w (by simp)) ((cov_cons ht hzR).mpr hcz) ?_ (fun s hs => ?_) hno
        · rw [ew] at hasc
          exact (List.pairwise_append.mp hasc).1
        · have hs' : s ∈ r :: cs := by rw [ew]; exact List.mem_append_left _ (List.mem_of_mem_head? hs)
          have : ltR z s = true := by
            rcases List.mem_cons.mp hs' with rfl | hs'
            · exact hlt
            · exact ltR_tr hlt ((List.pairwise_cons.mp hasc).1 s hs')
          simpa [adm] using this
    · cases h1
end DC
set_option pp.maxSteps 1500
namespace DC
open PySem L2 DL
def unl (T : Tb) : Tb := fun x y => !(decide (x = y) || T x y || T y x)
theorem unl_iff {T : Tb} {x y : Nat} : unl T x y = true ↔ x ≠ y ∧ T x y = false ∧ T y x = false := by
  unfold unl
  simp only [Bool.not_eq_true', Bool.or_eq_false_iff, decide_eq_false_iff_not]
  exact ⟨fun h => ⟨h.1.1, h.1.2, h.2⟩, fun h => ⟨⟨h.1, h.2.1⟩, h.2.2⟩⟩
abbrev Wys (n : Nat) (T : Tb) : List (List Nat) := cmp n T n 0
abbrev Lse (n : Nat) (T : Tb) : Prs := prs n (unl T)
theorem mem_lse {n x y : Nat} {T : Tb} : (x, y) ∈ Lse n T ↔ x < n ∧ y < n ∧ x ≠ y ∧ T x y = false ∧ T y x = false := by
  rw [mem_prs, unl_iff]
theorem lse_swap {n : Nat} {T : Tb} {p : Nat × Nat} (h : p ∈ Lse n T) : (p.2, p.1) ∈ Lse n T := by
  obtain ⟨x, y⟩ := p
  rw [mem_lse] at h ⊢
  exact ⟨h.2.1, h.1, Ne.symm h.2.2.1, h.2.2.2.2, h.2.2.2.1⟩
theorem bef_or {n x y : Nat} {r : List Nat} (h : Pm n r) (hx : x < n) (hy : y < n) (hne : x ≠ y) : bef r x y = true ∨ bef r y x = true := by
  have : r.idxOf x ≠ r.idxOf y := fun e => hne (h.inj hx hy e)
  unfold bef
  rw [decide_eq_true_eq, decide_eq_true_eq]
  omega
theorem wys_tells {n : Nat} {T : Tb} (iT : Irr n T) : Tells (Wys n T) (Lse n T) := fun r hr p hp => by
  obtain ⟨h1, h2, h3, _⟩ := mem_lse.mp (show (p.1, p.2) ∈ Lse n T from hp)
  exact bef_or (cmp_pm iT hr).1 h1 h2 h3
theorem wys_sorted {n : Nat} {T : Tb} : (Wys n T).Pairwise fun a b => ltR a b = true := cmp_sorted n 0
theorem wys_len {n : Nat} {T : Tb} (iT : Irr n T) : ∀ r ∈ Wys n T, r.length = n := fun r hr => (cmp_pm iT hr).1.len
theorem wys_ne {n : Nat} {T : Tb} (tT : Tr n T) (iT : Irr n T) : Wys n T ≠ [] := by
  obtain ⟨s, hs⟩ := cmp_ex tT iT (m := n) (F := 0) (by rw [bits_zero]; omega)
  exact List.ne_nil_of_mem hs
theorem wys_bef {n x y : Nat} {T : Tb} {r : List Nat} (iT : Irr n T) (hr : r ∈ Wys n T) (hx : x < n) (hy : y < n) (h : T x y = true) : bef r x y = true := (fit_idx iT (cmp_pm iT hr).1).mp (cmp_pm iT hr).2 x y hx hy h
theorem rows_eq {n : Nat} {r s : List Nat} (hr : Pm n r) (hs : Pm n s) (h : ∀ x y, x < n → y < n → bef r x y = bef s x y) : r = s := by
  have key : ∀ {t : List Nat}, Pm n t → t.Pairwise fun x y => bef t x y = true := fun {t} ht => by
    rw [List.pairwise_iff_getElem]
    intro i j hi hj hij
    unfold bef
    rw [decide_eq_true_eq, ht.nd.idxOf_getElem i hi, ht.nd.idxOf_getElem j hj]
    exact hij
  have hs2 : s.Pairwise fun x y => bef r x y = true := by
    have := key hs
    rw [List.pairwise_iff_getElem] at this ⊢
    intro i j hi hj hij
    rw [h _ _ (hs.lt _ (List.getElem_mem hi)) (hs.lt _ (List.getElem_mem hj))]
    exact this i j hi hj hij
  refine List.Perm.eq_of_pairwise (le := fun x y => bef r x y = true) (fun a b _ _ h1 h2 => ?_) (key hr) hs2 (hr.perm.trans hs.perm.symm)
  rw [bef_asym h1] at h2
  cases h2
theorem lse_nil {n : Nat} {T : Tb} (tT : Tr n T) (iT : Irr n T) : Lse n T = [] ↔ (Wys n T).length = 1 := by
  constructor
  · intro h
    have hno : ∀ x y, x < n → y < n → x ≠ y → T x y = true ∨ T y x = true := fun x y hx hy hne => by
      cases e1 : T x y with
      | true => exact .inl rfl
      | false =>
        cases e2 : T y x with
        | true => exact .inr rfl
        | false =>
          have : (x, y) ∈ Lse n T := mem_lse.mpr ⟨hx, hy, hne, e1, e2⟩
          rw [h] at this; cases this
    have hall : ∀ r ∈ Wys n T, ∀ x y, x < n → y < n → (bef r x y = true ↔ T x y = true) := fun r hr x y hx hy => by
      constructor
      · intro hb
        by_cases hne : x = y
        · subst hne; rw [bef_asym hb] at hb; cases hb
        · rcases hno x y hx hy hne with e | e
          · exact e
          · rw [bef_asym (wys_bef iT hr hy hx e)] at hb; cases hb
      · exact wys_bef iT hr hx hy
    have hw := wys_ne tT iT
    cases hR : Wys n T with
    | nil => exact absurd hR hw
    | cons r rs =>
      cases rs with
      | nil => rfl
      | cons s ss =>
        exfalso
        have hr : r ∈ Wys n T := by rw [hR]; simp
        have hs : s ∈ Wys n T := by rw [hR]; simp
        have e := rows_eq (cmp_pm iT hr).1 (cmp_pm iT hs).1 fun x y hx hy => by
          rw [Bool.eq_iff_iff, hall r hr x y hx hy, hall s hs x y hx hy]
        have := wys_sorted (n := n) (T := T)
        rw [hR] at this
        have := (List.pairwise_cons.mp this).1 s (by simp)
        rw [e, ltR_irr] at this
        cases this
  · intro h
    cases hP : Lse n T with
    | nil => rfl
    | cons p ps =>
      exfalso
      have hp : p ∈ Lse n T := by rw [hP]; simp
      obtain ⟨h1, h2, h3, h4, h5⟩ := mem_lse.mp (show (p.1, p.2) ∈ Lse n T from hp)
      obtain ⟨r, hr, hb⟩ := ways_against tT iT h1 h2 h3 h4
      obtain ⟨s, hs, hb2⟩ := ways_against tT iT h2 h1 (Ne.symm h3) h5
      have e : r = s := by
        cases hR : Wys n T with
        | nil => rw [hR] at h; cases h
        | cons a as =>
          cases as with
          | nil =>
            have hr' : r ∈ Wys n T := hr
            have hs' : s ∈ Wys n T := hs
            rw [hR] at hr' hs'
            have e1 : r = a := by simpa using hr'
            have e2 : s = a := by simpa using hs'
            rw [e1, e2]
          | cons b bs => rw [hR] at h; simp at h
      subst e
      rcases wys_tells iT r hr p hp with q | q
      · rw [q] at hb; cases hb
      · rw [q] at hb2; cases hb2
theorem sorted_nodup {R : List (List Nat)} (h : R.Pairwise fun a b => ltR a b = true) : R.Nodup := h.imp fun {a b} hab e => by
  subst e
  rw [ltR_irr] at hab; cases hab
structure Told (n : Nat) (T : Tb) (c : Nat) (L : List (List Nat)) : Prop where
  fd : ext (Wys n T) c [] (Lse n T) = some L
  mn : ∀ j, j < c → ext (Wys n T) j [] (Lse n T) = none
  cn : c ≤ n
theorem Told.ok {n c : Nat} {T : Tb} {L : List (List Nat)} (iT : Irr n T) (h : Told n T c L) : L.length = c + 1 ∧ (∀ r ∈ L, r ∈ Wys n T) ∧ Cov2 (Lse n T) L ∧ L.Pairwise (fun a b => ltR a b = true) := by
  obtain ⟨cs, z, e, hl, hcs, hz, hc, hp, _⟩ := ext_ok wys_sorted (wys_tells iT) h.fd
  rw [List.nil_append] at e
  subst e
  refine ⟨by simp [hl], fun r hr => ?_, hc, ?_⟩
  · rcases List.mem_append.mp hr with m | m
    · exact hcs r m
    · have : r = z := by simpa using m
      subst this; exact hz
  · refine ext_asc (k := c) (ch := []) (ps := Lse n T) wys_sorted (wys_len iT) (wys_tells iT) (by rw [List.nil_append]; exact h.fd) hl rfl fun m => ?_
    have hne : cs ≠ [] := List.ne_nil_of_mem m
    obtain ⟨as, w, ew⟩ := split_last hne
    have la : as.length + 1 = c := by rw [← hl, ew]; simp
    have hno := h.mn as.length (by omega)
    refine ext_ne (cs := as) (z := w) (wys_tells iT) rfl (fun r hr => hcs r (by rw [ew]; simp [hr])) (hcs w (by rw [ew]; simp)) ?_ ?_ (fun r hr => rfl) hno
    · refine cov_mem hc fun r hr => ?_
      rw [← ew]
      rcases List.mem_append.mp hr with q | q
      · exact q
      · have : r = z := by simpa using q
        subst this; exact m
    · rw [ew] at hp
      exact (List.pairwise_append.mp hp).1
theorem Told.one {n c : Nat} {T : Tb} {L : List (List Nat)} (tT : Tr n T) (iT : Irr n T) (h : Told n T c L) : c = 0 ↔ (Wys n T).length = 1 := by
  rw [← lse_nil tT iT]
  constructor
  · intro e
    subst e
    obtain ⟨hl, hm, hc, _⟩ := h.ok iT
    cases hP : Lse n T with
    | nil => rfl
    | cons p ps =>
      exfalso
      have hp : p ∈ Lse n T := by rw [hP]; simp
      obtain ⟨r, hr, h1⟩ := hc p hp
      obtain ⟨s, hs, h2⟩ := hc _ (lse_swap hp)
      cases L with
      | nil => cases hl
      | cons a as =>
        have : as = [] := by simpa using hl
        subst this
        have e1 : r = a := by simpa using hr
        have e2 : s = a := by simpa using hs
        subst e1 e2
        rw [bef_asym h1] at h2; cases h2
  · intro e
    cases c with
    | zero => rfl
    | succ c =>
      exfalso
      have := h.mn 0 (by omega)
      obtain ⟨r, hr⟩ := List.exists_mem_of_ne_nil _ (wys_ne tT iT)
      exact ext_ne (cs := []) (z := r) (wys_tells iT) rfl (fun r hr => nomatch hr) hr (by rw [e]; exact fun p hp => nomatch hp) List.Pairwise.nil (fun r hr => by cases hr) this
end DC
set_option pp.maxSteps 1500
namespace DC
open PySem L2 DL
end DC
namespace DC
open PySem L2 DL
abbrev Ow := List (Nat × Nat)
def oAt : Ow → Nat → Option Nat
  | [], _ => none
  | p :: m, y => if p.1 = y then some p.2 else oAt m y
def TOk (R : Nat) (T : List Nat) : Prop := T.Nodup ∧ ∀ y ∈ T, y < R
structure Fails (G : Nat → List Nat) (m : Ow) (R : Nat) (T T' : List Nat) : Prop where
  ok : TOk R T'
  sub : ∀ y ∈ T, y ∈ T'
  len : T.length ≤ T'.length
  own : ∀ y ∈ T', y ∉ T → ∃ z, oAt m y = some z ∧ ∀ y' ∈ G z, y' ∈ T'
theorem Fails.refl {G : Nat → List Nat} {m : Ow} {R : Nat} {T : List Nat} (h : TOk R T) : Fails G m R T T := ⟨h, fun _ m => m, Nat.le_refl _, fun y a b => absurd a b⟩
structure Augs (G : Nat → List Nat) (m : Ow) (T : List Nat) (x : Nat) (m' : Ow) : Prop where
  same : ∀ y ∈ T, oAt m' y = oAt m y
  new : ∃ y, y ∉ T ∧ oAt m' y = some x
  edge : ∀ y z, oAt m' y = some z → y ∈ G z
  stay : ∀ y z, oAt m y = some z → ∃ y', oAt m' y' = some z
  keys : ∀ y, oAt m y ≠ none → oAt m' y ≠ none
  vals : ∀ y z, y ∉ T → oAt m' y = some z → z = x ∨ ∃ y', y' ∉ T ∧ oAt m y' = some z
  inj : ∀ y y' z, y ∉ T → y' ∉ T → oAt m' y = some z → oAt m' y' = some z → y = y'
def OInj (m : Ow) : Prop := ∀ y y' z, oAt m y = some z → oAt m y' = some z → y = y'
def OClo (G : Nat → List Nat) (m : Ow) (B : Nat → Prop) : Prop := ∀ y, B y → ∃ z, oAt m y = some z ∧ ∀ y' ∈ G z, B y'
structure MOk (G : Nat → List Nat) (k : Nat) (m : Ow) : Prop where
  inj : OInj m
  edge : ∀ y z, oAt m y = some z → y ∈ G z
  low : ∀ y z, oAt m y = some z → z < k
  clo : ∃ B : Nat → Prop, OClo G m B ∧ ∀ x, x < k → (∃ y, oAt m y = some x) ∨ ∀ y ∈ G x, B y
end DC
namespace DC
open PySem L2 DL
def OLow (n : Nat) (m : Ow) : Prop := ∀ y z, oAt m y = some z → z < n
end DC
set_option pp.maxSteps 1500
namespace DC
open PySem L2 DL
def mv (m : Ow) : Nat → Nat → Int
  | 0, _ => -1
  | k + 1, x => if oAt m k = some x then (k : Int) else mv m k x
theorem mv_cases {m : Ow} (hi : OInj m) : ∀ {k x : Nat}, (∃ y, y < k ∧ oAt m y = some x ∧ mv m k x = (y : Int)) ∨ ((∀ y, y < k → oAt m y ≠ some x) ∧ mv m k x = -1)
  | 0, x => .inr ⟨fun y h => absurd h (Nat.not_lt_zero y), rfl⟩
  | k + 1, x => by
    rw [mv]
    by_cases e : oAt m k = some x
    · rw [if_pos e]
      exact .inl ⟨k, Nat.lt_succ_self k, e, rfl⟩
    · rw [if_neg e]
      rcases mv_cases hi (k := k) (x := x) with ⟨y, h1, h2, h3⟩ | ⟨h1, h2⟩
      · exact .inl ⟨y, Nat.lt_succ_of_lt h1, h2, h3⟩
      · refine .inr ⟨fun y hy => ?_, h2⟩
        rcases Nat.lt_succ_iff_lt_or_eq.mp hy with q | q
        · exact h1 y q
        · subst q; exact e
end DC
set_option pp.maxSteps 1500
namespace DC
open PySem L2 DL
structure CovI (G : Nat → List Nat) (m : Ow) (n R : Nat) (B : Nat → Prop) (at' : Nat) (rs : List Nat) (F : Nat) : Prop where
  nd : rs.Nodup
  lt : ∀ x ∈ rs, x < n
  free : ∀ x, x < n → (∀ y, oAt m y ≠ some x) → x ∈ rs
  hit : ∀ x ∈ rs, (∀ y, oAt m y ≠ some x) ∨ ∃ y, F.testBit y = true ∧ oAt m y = some x
  done : ∀ i x, i < at' → rs[i]? = some x → ∀ y ∈ G x, F.testBit y = true
  own : ∀ y, F.testBit y = true → y < R ∧ ∃ x ∈ rs, oAt m y = some x
  bad : ∀ x ∈ rs, ∀ y ∈ G x, B y
end DC
set_option pp.maxSteps 1500
namespace DC
open PySem L2 DL
theorem geE {f g : DL.Env → Out D} {ρ : DL.Env} {a b : Int} (hf : f ρ = .ok (.a (.int a)) ρ) (hg : g ρ = .ok (.a (.int b)) ρ) : dB (dOp2 gGe f g) ρ = .ok (decide (b ≤ a)) ρ := by
  apply out_eq
  rw [w_B, w_Op2, hf, wo_ok, hg, wo_ok]
  simp
structure Cov (G : Nat → List Nat) (m : Ow) (n R : Nat) (rs : List Nat) (F : Nat) : Prop where
  nd : rs.Nodup
  lt : ∀ x ∈ rs, x < n
  free : ∀ x, x < n → (∀ y, oAt m y ≠ some x) → x ∈ rs
  hit : ∀ x ∈ rs, (∀ y, oAt m y ≠ some x) ∨ ∃ y, F.testBit y = true ∧ oAt m y = some x
  done : ∀ x ∈ rs, ∀ y ∈ G x, F.testBit y = true
  own : ∀ y, F.testBit y = true → y < R ∧ ∃ x ∈ rs, oAt m y = some x
end DC
namespace DC
open PySem L2 DL
theorem map_nodup {α β : Type} {f : α → β} : ∀ {l : List α}, l.Nodup → (∀ x ∈ l, ∀ y ∈ l, f x = f y → x = y) → (l.map f).Nodup
  | [], _, _ => List.nodup_nil
  | a :: l, h, hi => by
    have h' := List.nodup_cons.mp h
    rw [List.map_cons]
    refine List.nodup_cons.mpr ⟨fun m => ?_, map_nodup h'.2 fun x hx y hy => hi x (List.mem_cons_of_mem _ hx) y (List.mem_cons_of_mem _ hy)⟩
    obtain ⟨b, hb, e⟩ := List.mem_map.mp m
    have := hi a List.mem_cons_self b (List.mem_cons_of_mem _ hb) e.symm
    subst this
    exact h'.1 hb
theorem mv_of {m : Ow} {R : Nat} (hi : OInj m) (hr : ∀ y z, oAt m y = some z → y < R) {x y : Nat} (h : oAt m y = some x) : mv m R x = (y : Int) := by
  rcases mv_cases hi (k := R) (x := x) with ⟨y0, h1, h2, h3⟩ | ⟨h1, h2⟩
  · rw [h3, hi y0 y x h2 h]
  · exact absurd h (h1 y (hr y x h))
theorem mv_pos {m : Ow} {R : Nat} (hi : OInj m) {x : Nat} (h : 0 ≤ mv m R x) : ∃ y, y < R ∧ oAt m y = some x ∧ mv m R x = (y : Int) := by
  rcases mv_cases hi (k := R) (x := x) with q | ⟨h1, h2⟩
  · exact q
  · omega
end DC
namespace DC
open PySem L2 DL
end DC
namespace DC
open PySem L2 DL
section
variable {w : Str} {a b : D}
end
end DC
namespace DC
open PySem L2 DL
end DC
namespace DC
open PySem L2 DL
theorem tup1 {fa : DL.Env → Out D} {ρ : DL.Env} {a : D} (ha : fa ρ = .ok a ρ) (za : isF a = true) : dTup (dACons fa dANil) ρ = .ok (.n .tup false [a]) ρ := by
  apply out_eq
  rw [w_Tup, ag1 ha, wo_ok]
  refine ⟨show 1 ≤ cap by decide, ?_, rfl⟩
  rw [frzL_isFL [a] (by rw [isFL_cons, za]; rfl)]
section
variable {f g : DL.Env → Out D} {ρ : DL.Env} {A B : List (List Nat)} {l m : List Nat} {k : Nat}
theorem oneP (hf : f ρ = .ok (tupN l) ρ) : dTup (dACons f dANil) ρ = .ok (parD [l]) ρ := tup1 hf isF_tupN
end
section
variable {n : Nat} {T : Tb} {r : Bool} {s : List Nat} {Ps : List (List Nat)}
end
end DC
namespace DC
open PySem L2 DL
namespace Lg
section
variable {n : Nat} {T : Tb} {r : Nat → Nat}
end
end Lg
structure PapOk (n : Nat) (T : Tb) (s : List Nat) (Ps : List (List Nat)) : Prop where
  s1 : ascN n 0 s = true
  s2 : fits T true s = true
  p1 : ∀ p ∈ Ps, ascN n 0 p = true
  p2 : ∀ p ∈ Ps, p ≠ []
  p3 : ∀ p ∈ Ps, fits T false p = true
  fl : Ps.flatten.Perm (List.range n)
  len : Ps.length = s.length
  bd : s.length ≤ n
section
variable {n : Nat} {T : Tb} {r : Nat → Nat}
end
section
variable {n : Nat} {T : Tb} {s : List Nat} {Ps : List (List Nat)}
theorem PapOk.lt (h : PapOk n T s Ps) : ∀ p ∈ Ps, ∀ x ∈ p, x < n := fun p hp => ascN_lt (h.p1 p hp)
end
end DC
namespace DC
open PySem L2 DL
def pO (m : Ow) (R x : Nat) : Option Nat := if 0 ≤ mv m R x then some (mv m R x).toNat else none
theorem pO_iff {m : Ow} {R x y : Nat} (hi : OInj m) (hr : ∀ y z, oAt m y = some z → y < R) : pO m R x = some y ↔ oAt m y = some x := by
  unfold pO
  constructor
  · intro h
    split at h
    · rename_i e
      cases h
      obtain ⟨y0, h1, h2, h3⟩ := mv_pos hi e
      rw [h3, Int.toNat_natCast]
      exact h2
    · cases h
  · intro h
    have := mv_of (R := R) hi hr h
    rw [this, if_pos (by omega), Int.toNat_natCast]
structure Chn (nx : Nat → Option Nat) (x : Nat) (c : List Nat) : Prop where
  hd : c[0]? = some x
  lk : ∀ i y z, c[i]? = some y → c[i + 1]? = some z → nx y = some z
  lst : ∀ i y, c[i]? = some y → i + 1 = c.length → nx y = none
section
variable {nx : Nat → Option Nat} {x : Nat} {c : List Nat}
theorem Chn.succ (h : Chn nx x c) {y z : Nat} (hz : z ∈ c) (e : nx z = some y) : y ∈ c := by
  obtain ⟨i, hi, e1⟩ := List.mem_iff_getElem.mp hz
  have hz' : c[i]? = some z := by rw [List.getElem?_eq_getElem hi, e1]
  by_cases hl : i + 1 = c.length
  · rw [h.lst i z hz' hl] at e
    cases e
  · have hy : c[i + 1]? = some (c[i + 1]'(by omega)) := List.getElem?_eq_getElem _
    have := h.lk i _ _ hz' hy
    rw [e] at this
    cases this
    exact List.mem_of_getElem? hy
theorem link_pw {n : Nat} {T : Tb} (tT : Tr n T) : ∀ {c : List Nat}, (∀ x ∈ c, x < n) → (∀ i y z : Nat, c[i]? = some y → c[i + 1]? = some z → T y z = true) → c.Pairwise fun a b => T a b = true
  | [], _, _ => .nil
  | [a], _, _ => List.pairwise_singleton _ _
  | a :: b :: c, hn, hl => by
    have ih := link_pw tT (c := b :: c) (fun x hx => hn x (List.mem_cons_of_mem _ hx)) fun i y z h1 h2 => hl (i + 1) y z (by simpa using h1) (by simpa using h2)
    have ab := hl 0 a b rfl rfl
    refine List.pairwise_cons.mpr ⟨fun y hy => ?_, ih⟩
    rcases List.mem_cons.mp hy with q | q
    · subst q; exact ab
    · exact tT a b y (hn a List.mem_cons_self) (hn b (by simp)) (hn y (by simp [q])) ab ((List.pairwise_cons.mp ih).1 y q)
end
theorem pw_any {T : Tb} {l : List Nat} (hp : l.Pairwise fun a b => T a b = true) : ∀ x ∈ l, ∀ y ∈ l, x = y ∨ T x y = true ∨ T y x = true := by
  induction hp with
  | nil => intro x hx; cases hx
  | cons h1 _ ih =>
    intro x hx y hy
    rcases List.mem_cons.mp hx with rfl | hx'
    · rcases List.mem_cons.mp hy with rfl | hy'
      · exact .inl rfl
      · exact .inr (.inl (h1 y hy'))
    · rcases List.mem_cons.mp hy with rfl | hy'
      · exact .inr (.inr (h1 x hx'))
      · exact ih x hx' y hy'
structure Chs (n : Nat) (T : Tb) (m : Ow) (Cs : List (List Nat)) : Prop where
  hds : Cs.map (fun c => c.getD 0 0) = (List.range n).filter fun x => (oAt m x).isNone
  ch : ∀ c ∈ Cs, ∃ x, Chn (pO m n) x c
  lt : ∀ c ∈ Cs, ∀ x ∈ c, x < n
section
variable {n : Nat} {T : Tb} {m : Ow} {Cs : List (List Nat)} {r : Nat → Nat}
theorem Chs.pw (h : Chs n T m Cs) (tT : Tr n T) (hi : OInj m) (hr : ∀ y z, oAt m y = some z → y < n) (he : ∀ y z, oAt m y = some z → T z y = true) {c : List Nat} (hc : c ∈ Cs) : c.Pairwise fun a b => T a b = true := by
  obtain ⟨x, hx⟩ := h.ch c hc
  exact link_pw tT (h.lt c hc) fun i y z h1 h2 => he z y ((pO_iff hi hr).mp (hx.lk i y z h1 h2))
theorem Chs.cover (h : Chs n T m Cs) (hs : RankS n T r) (hi : OInj m) (hr : ∀ y z, oAt m y = some z → y < n) (hl : OLow n m) (he : ∀ y z, oAt m y = some z → T z y = true) : ∀ (k y : Nat), r y < k → y < n → ∃ c ∈ Cs, y ∈ c
  | 0, y, hk, _ => absurd hk (Nat.not_lt_zero _)
  | k + 1, y, hk, hy => by
    cases e : oAt m y with
    | none =>
      have : y ∈ (List.range n).filter fun x => (oAt m x).isNone := List.mem_filter.mpr ⟨List.mem_range.mpr hy, by rw [e]; rfl⟩
      rw [← h.hds] at this
      obtain ⟨c, hc, ec⟩ := List.mem_map.mp this
      obtain ⟨x, hx⟩ := h.ch c hc
      rw [List.getD_eq_getElem?_getD, hx.hd] at ec
      have ec : x = y := ec
      subst ec
      exact ⟨c, hc, List.mem_of_getElem? hx.hd⟩
    | some z =>
      have hz := hl y z e
      have := hs.lt y z hy hz (he y z e)
      obtain ⟨c, hc, zc⟩ := Chs.cover h hs hi hr hl he k z (by omega) hz
      obtain ⟨x, hx⟩ := h.ch c hc
      exact ⟨c, hc, hx.succ zc ((pO_iff hi hr).mpr e)⟩
theorem Chs.nd (h : Chs n T m Cs) (tT : Tr n T) (iT : Irr n T) (hi : OInj m) (hr : ∀ y z, oAt m y = some z → y < n) (he : ∀ y z, oAt m y = some z → T z y = true) {c : List Nat} (hc : c ∈ Cs) : c.Nodup :=
  List.Pairwise.imp_of_mem (fun {a b} ha hb hT e => by
    subst e
    rw [iT a (h.lt c hc a ha)] at hT
    cases hT) (h.pw tT hi hr he hc)
theorem Chs.le (h : Chs n T m Cs) (tT : Tr n T) (hs : RankS n T r) (hi : OInj m) (hr : ∀ y z, oAt m y = some z → y < n) (hl : OLow n m) (he : ∀ y z, oAt m y = some z → T z y = true) {S : List Nat} (hS : ∀ x ∈ S, x < n) (nd : S.Nodup) (ha : ∀ x ∈ S, ∀ y ∈ S, T x y = false) : S.length ≤ Cs.length := by
  have cv : ∀ x ∈ S, ∃ c ∈ Cs, x ∈ c := fun x hx => h.cover hs hi hr hl he (r x + 1) x (Nat.lt_succ_self _) (hS x hx)
  have ix : ∀ x ∈ S, Cs.findIdx (fun c => decide (x ∈ c)) < Cs.length ∧ ∃ c, Cs[Cs.findIdx fun c => decide (x ∈ c)]? = some c ∧ c ∈ Cs ∧ x ∈ c := fun x hx => by
    obtain ⟨c, hc, xc⟩ := cv x hx
    have lt : Cs.findIdx (fun c => decide (x ∈ c)) < Cs.length := List.findIdx_lt_length_of_exists ⟨c, hc, by simpa using xc⟩
    refine ⟨lt, Cs[Cs.findIdx fun c => decide (x ∈ c)], List.getElem?_eq_getElem lt, List.getElem_mem lt, ?_⟩
    have := List.findIdx_getElem (xs := Cs) (p := fun c => decide (x ∈ c)) (w := lt)
    simpa using this
  have nd2 : (S.map fun x => Cs.findIdx fun c => decide (x ∈ c)).Nodup := by
    refine map_nodup nd fun x hx y hy e => ?_
    obtain ⟨_, c, c1, c2, c3⟩ := ix x hx
    obtain ⟨_, d, d1, d2, d3⟩ := ix y hy
    have e : Cs.findIdx (fun c => decide (x ∈ c)) = Cs.findIdx fun c => decide (y ∈ c) := e
    rw [e, d1] at c1
    cases c1
    rcases pw_any (h.pw tT hi hr he c2) x c3 y d3 with q | q | q
    · exact q
    · rw [ha x hx y hy] at q; cases q
    · rw [ha y hy x hx] at q; cases q
  have := nodup_lt nd2 fun i hi' => by
    obtain ⟨x, hx, e⟩ := List.mem_map.mp hi'
    have := (ix x hx).1
    rw [← e]
    exact this
  rwa [List.length_map] at this
end
end DC
set_option pp.maxSteps 1500
namespace DC
open PySem L2 DL
theorem sizeE {n i : Nat} {T : Tb} {ρ : DL.Env} (h : ρ[i]? = some (some (ordT n T))) : dMeth "Order" "size" 0 F_Order_size (dVar i) dANil ρ = .ok (natD n) ρ := by
  apply out_eq
  simp [h, isF_ordT, asIns_ord, size_eq', nfs]
  rfl
structure MOrd (n : Nat) (T : Tb) (m : Ow) : Prop where
  inj : OInj m
  rt : ∀ y z, oAt m y = some z → y < n
  low : OLow n m
  rel : ∀ y z, oAt m y = some z → T z y = true
end DC
set_option pp.maxSteps 1500
namespace DC
open PySem L2 DL
structure Und (n : Nat) (m : Ow) (x : Nat) (c : List Nat) : Prop where
  hd : c[0]? = some x
  lk : ∀ i y z, c[i]? = some y → c[i + 1]? = some z → pO m n y = some z
  lt : ∀ y ∈ c, y < n
theorem Und.len {n x : Nat} {T : Tb} {m : Ow} {c : List Nat} (h : Und n m x c) (tT : Tr n T) (iT : Irr n T) (o : MOrd n T m) : c.length ≤ n := by
  have pw := link_pw tT h.lt fun i y z h1 h2 => o.rel z y ((pO_iff o.inj o.rt).mp (h.lk i y z h1 h2))
  refine nodup_lt ?_ h.lt
  exact List.Pairwise.imp_of_mem (fun {a b} ha hb hT e => by
    subst e
    rw [iT a (h.lt a ha)] at hT
    cases hT) pw
end DC
namespace DC
open PySem L2 DL
structure PapW (n : Nat) (T : Tb) (s : List Nat) (Ps : List (List Nat)) : Prop where
  s1 : ascN n 0 s = true
  s2 : fits T false s = true
  p1 : ∀ p ∈ Ps, ascN n 0 p = true
  p2 : ∀ p ∈ Ps, p ≠ []
  p3 : ∀ p ∈ Ps, fits T true p = true
  fl : Ps.flatten.Perm (List.range n)
  len : Ps.length = s.length
  bd : s.length ≤ n
end DC
namespace DC
open PySem L2 DL
section
variable {n : Nat} {T : Tb} {s : List Nat} {Ps : List (List Nat)}
theorem PapW.lt (h : PapW n T s Ps) : ∀ p ∈ Ps, ∀ x ∈ p, x < n := fun p hp => ascN_lt (h.p1 p hp)
end
end DC
set_option pp.maxSteps 1500
namespace DC
open PySem L2 DL
def oD : Option Nat → D
  | none => .a (.int (-1))
  | some y => natD y
theorem neI {f g : DL.Env → Out D} {ρ : DL.Env} {a b : Int} (hf : f ρ = .ok (.a (.int a)) ρ) (hg : g ρ = .ok (.a (.int b)) ρ) : dB (dOp2 gNe f g) ρ = .ok (!decide (a = b)) ρ := by
  apply out_eq
  rw [w_B, w_Op2, hf, wo_ok, hg, wo_ok]
  simp
end DC
set_option pp.maxSteps 1500
namespace DC
open PySem L2 DL
def SB (s : List Nat) : Prop := s.length ≤ 50 ∧ ∀ x ∈ s, x < 50
def PB (Ps : List (List Nat)) : Prop := Ps.length ≤ 50 ∧ ∀ p ∈ Ps, SB p
end DC
set_option pp.maxSteps 1500
namespace DC
open PySem L2 DL
end DC
set_option pp.maxSteps 1500
namespace DC
open PySem L2 DL
def SBk (k : Nat) (s : List Nat) : Prop := s.length ≤ k ∧ ∀ x ∈ s, x < 50
def PBk (k : Nat) (Ps : List (List Nat)) : Prop := Ps.length ≤ 50 ∧ ∀ p ∈ Ps, SBk k p
theorem SBk.mono {k m : Nat} {s : List Nat} (h : SBk k s) (hk : k ≤ m) : SBk m s := ⟨Nat.le_trans h.1 hk, h.2⟩
theorem PBk.mono {k m : Nat} {Ps : List (List Nat)} (h : PBk k Ps) (hk : k ≤ m) : PBk m Ps := ⟨h.1, fun p hp => (h.2 p hp).mono hk⟩
end DC
set_option pp.maxSteps 1500
namespace DC
open PySem L2 DL
theorem w_lcM {α : Type} {E : Exn → DL.Env → Prop} {P : D → DL.Env → Prop} {ρ : DL.Env} {v : Nat} {src : DL.Env → Out (List D)} {t : DL.Env → Out Bool} {f : DL.Env → Out D} {l : List α} (enc : α → D) (tb : α → Bool) (fv : α → D) (hv : ∀ d, ρ[v]? = some (some d) → isF d = true) (hl : v < ρ.length) (hsrc : src ρ = .ok (l.map enc) ρ) (hc : l.length ≤ 1000000)
    (ht : ∀ x ∈ l, t (ρ.set v (some (enc x))) = .ok (tb x) (ρ.set v (some (enc x)))) (hf : ∀ x ∈ l, tb x = true → f (ρ.set v (some (enc x))) = .ok (fv x) (ρ.set v (some (enc x)))) (k : P (.lst true ((l.filter tb).map fv)) ρ) : WO E P (dLc [v] src (tg1 v) t f ρ) := by
  rw [w_Lc, hsrc]
  refine ⟨by rw [List.length_map]; exact hc, ?_⟩
  have hw : wipeE ρ [v] = ρ.set v none := rfl
  refine wo_lcK (fun i ys ρ' => ys = ((l.take i).filter tb).map fv ∧ ρ' = ρ.set v none) ⟨by simp, rfl⟩ ?_ ?_
  · intro i d ys ρ' hd h J hJ
    obtain ⟨rfl, rfl⟩ := h
    rw [List.getElem?_map] at hd
    obtain ⟨x, hx, rfl⟩ := Option.map_eq_some_iff.mp hd
    have hm := List.mem_of_getElem? hx
    rw [s_tg1]
    refine ⟨by rw [List.length_set]; exact hl, ?_⟩
    rw [List.set_set, ht x hm, wo_ok]
    cases e : tb x with
    | true =>
      rw [if_pos rfl, hf x hm e, wo_ok]
      refine hJ _ _ ⟨?_, by simp [wipeE]⟩
      rw [List.take_succ, hx, List.filter_append, List.map_append]
      simp [e]
    | false =>
      rw [if_neg (by decide)]
      refine hJ _ _ ⟨?_, by simp [wipeE]⟩
      rw [List.take_succ, hx, List.filter_append, List.map_append]
      simp [e]
  · rintro ys ρ' ⟨rfl, rfl⟩
    rw [List.length_map, List.take_length]
    have : wipeE (ρ.set v none) [v] = wipeE ρ [v] := by simp [wipeE]
    rw [this, back_same hv]
    exact k
end DC
set_option pp.maxSteps 1500
namespace DC
open PySem L2 DL
end DC
set_option pp.maxSteps 1500
namespace DC
open PySem L2 DL
end DC
set_option pp.maxSteps 1500
namespace DC
open PySem L2 DL
theorem wo_ofB {E : Exn → DL.Env → Prop} {P : Bool → DL.Env → Prop} {o : Out Bool} {x : Bool} {ρ : DL.Env} (h : o = .ok x ρ) (k : P x ρ) : WO E P o := by
  rw [h]; exact k
end DC
set_option pp.maxSteps 1500
namespace DC
open PySem L2 DL
end DC
set_option pp.maxSteps 1500
namespace DC
open PySem L2 DL
end DC
set_option pp.maxSteps 1500
namespace DC
open PySem L2 DL
theorem intL_off (i m : Nat) : intL (i : Int) m = (List.range m).map fun k => natD (i + k) := by
  unfold intL natD
  apply List.map_congr_left
  intro k _
  show D.a (.int ((i : Int) + (k : Int))) = D.a (.int ((i + k : Nat) : Int))
  rw [show (i : Int) + (k : Int) = ((i + k : Nat) : Int) by omega]
theorem pairsE {n i : Nat} {T : Tb} {ρ : DL.Env} (hn : n ≤ 60) (h : ρ[i]? = some (some (ordT n T))) : dMeth "Order" "pairs" 0 F_Order_pairs (dVar i) dANil ρ = .ok (.n .tup false ((prs n T).map prD)) ρ := by
  apply out_eq
  simp [h, isF_ordT, asIns_ord, pairs_eq' hn, nfp]
end DC
set_option pp.maxSteps 1500
namespace DC
open PySem L2 DL
theorem andV0 {f g : DL.Env → Out D} {ρ : DL.Env} (hf : f ρ = .ok (.a (.bl false)) ρ) : dAndV f g ρ = .ok (.a (.bl false)) ρ := by
  apply out_eq
  rw [w_AndV, hf, wo_ok, asB_bl]
  simp
end DC
set_option pp.maxSteps 1500
namespace DC
open PySem L2 DL
end DC
set_option pp.maxSteps 1500
namespace DC
open PySem L2 DL
structure MFam (L : List Nat) : Prop where
  nd : L.Nodup
  lt : ∀ a ∈ L, a < 16
  cl : ∀ a ∈ L, ∀ b ∈ L, a &&& b ∈ L
  tp : ∃ t ∈ L, ∀ a ∈ L, a &&& t = a
theorem sub_anti {a b : Nat} (h1 : a &&& b = a) (h2 : b &&& a = b) : a = b := by
  rw [← h1, Nat.and_comm, h2]
end DC
set_option pp.maxSteps 1500
namespace DC
open PySem L2 DL
end DC
set_option pp.maxSteps 1500
namespace DC
open PySem L2 DL
structure FInv (m : Nat) (F : List Nat) : Prop where
  nd : F.Nodup
  lt : ∀ a ∈ F, a < 2 ^ m
  cl : ∀ a ∈ F, ∀ b ∈ F, a &&& b ∈ F
  tp : 2 ^ m - 1 ∈ F
end DC
set_option pp.maxSteps 1500
namespace DC
open PySem L2 DL
theorem ixvD {i j : Nat} {fb : DL.Env → Out D} {ρ : DL.Env} {o : Bool} {xs : List D} {d : D} (h : ρ[i]? = some (some (.n .lst o xs))) (hf : fb ρ = .ok (natD j) ρ) (hx : xs[j]? = some d) (hd : isF d = true) : dIxV i fb ρ = .ok d ρ := by
  apply out_eq
  rw [w_IxV, h, so_some, so_some, hf, wo_ok, h, so_some, so_some]
  rw [show gIxO (.n .lst o xs) (natD j) = some d from atI_nat hx]
  exact ⟨hd, rfl, rfl⟩
theorem sub_ok {Q : Ps} {i j : Nat} {fj : DL.Env → Out D} {ρ : DL.Env} {xs : List D} {d : D} (h : ρ[i]? = some (some (.lst true xs))) (hf : fj ρ = .ok (natD j) ρ) (hj : j < xs.length) (k : Q.nx (ρ.set i (some (.lst true (xs.set j d))))) : WP Q (stSub i fj d ρ) := by
  rw [p_Sub, h, so_some, so_some, asL_lst, hf, wo_ok]
  show SO (ρ[i]?) _
  rw [h, so_some, so_some, asL_lst, ixN_nat hj]
  exact k
end DC
set_option pp.maxSteps 1500
namespace DC
open PySem L2 DL
theorem agN {ρ : DL.Env} : dANil ρ = .ok (([] : List D).map Ag.d) ρ := rfl
theorem agC {fa : DL.Env → Out D} {g : DL.Env → Out (List Ag)} {ρ : DL.Env} {a : D} {ds : List D} (ha : fa ρ = .ok a ρ) (hg : g ρ = .ok (ds.map Ag.d) ρ) : dACons fa g ρ = .ok ((a :: ds).map Ag.d) ρ := by
  apply out_eq
  rw [w_ACons, ha, wo_ok, hg, wo_ok]
  exact ⟨rfl, rfl⟩
theorem agL_map (ds : List D) : agL (ds.map Ag.d) = some ds := by
  induction ds with
  | nil => rfl
  | cons a l ih => rw [List.map_cons, agL, ih]; rfl
theorem lstG {g : DL.Env → Out (List Ag)} {ρ : DL.Env} {ds : List D} (hg : g ρ = .ok (ds.map Ag.d) ρ) (hl : ds.length ≤ 1000) : dLst g ρ = .ok (.lst true ds) ρ := by
  apply out_eq
  rw [w_Lst, hg, wo_ok, agL_map, so_some]
  exact ⟨Nat.le_trans hl (by decide), rfl, rfl⟩
end DC
set_option pp.maxSteps 1500
namespace DC
open PySem L2 DL
end DC
set_option pp.maxSteps 1500
namespace DC
open PySem L2 DL
variable {n : Nat} {T : Tb}
theorem lcE {ρ : DL.Env} {v : Nat} {l : List Nat} {src : DL.Env → Out (List D)} {t : DL.Env → Out Bool} (tb : Nat → Bool) (hv : ∀ d, ρ[v]? = some (some d) → isF d = true) (hl : v < ρ.length) (hs : src ρ = .ok (l.map natD) ρ) (hc : l.length ≤ 1000) (ht : ∀ x ∈ l, t (ρ.set v (some (natD x))) = .ok (tb x) (ρ.set v (some (natD x)))) :
    dLc [v] src (tg1 v) t (dVar v) ρ = .ok (.n .lst true ((l.filter tb).map natD)) ρ := by
  apply out_eq
  refine w_lcNF tb natD hv hl hs (by omega) ht (fun x hx _ => var_eq (get_set_self hl) rfl) ⟨rfl, rfl⟩
theorem lenL {f : DL.Env → Out D} {ρ : DL.Env} {o : Bool} {l : List Nat} (hf : f ρ = .ok (.n .lst o (l.map natD)) ρ) : dU gLen f ρ = .ok (natD l.length) ρ := uE hf fun P => by
  show P (.a (.int (l.map natD).length)) = _
  rw [List.length_map]
  rfl
end DC
set_option pp.maxSteps 1500
namespace DC
open PySem L2 DL
section
variable {n : Nat} {T : Tb} (hn : n ≤ 60) (tT : Tr n T) (iT : Irr n T) (L : IsLat n T)
include hn tT iT L
end
end DC
set_option pp.maxSteps 1500
namespace DC
open PySem L2 DL
section
variable {n : Nat} {T : Tb} (tT : Tr n T) (iT : Irr n T) (L : IsLat n T) (hd : ∀ x y z, x < n → y < n → z < n → mt n T x (jn n T y z) = jn n T (mt n T x y) (mt n T x z))
include tT iT L
include hd
end
end DC
set_option pp.maxSteps 1500
namespace DC
open PySem L2 DL
theorem tupG {g : DL.Env → Out (List Ag)} {ρ : DL.Env} {ds : List D} (hg : g ρ = .ok (ds.map Ag.d) ρ) (hf : isFL ds = true) (hl : ds.length ≤ 1000) : dTup g ρ = .ok (.n .tup false ds) ρ := by
  apply out_eq
  rw [w_Tup, hg, wo_ok]
  have e : agL (ds.map Ag.d) = some ds := by
    clear hg hf hl
    induction ds with
    | nil => rfl
    | cons a l ih => rw [List.map_cons, agL, ih]; rfl
  rw [e, so_some]
  refine ⟨Nat.le_trans hl (by decide), ?_, rfl⟩
  rw [frzL_isFL ds hf]
section
variable {n : Nat} {T : Tb} (hn : n ≤ 30) (tT : Tr n T) (iT : Irr n T) (L : IsLat n T)
include hn tT iT L
end
end DC
set_option pp.maxSteps 1500
namespace DC
open PySem L2 DL
abbrev retF : DL.Env → Fl := dBind (dC (.bl false)) fun d ρ => .rt d ρ
theorem set_set {ρ : DL.Env} {v : Nat} {o1 o2 : Option D} : (ρ.set v o1).set v o2 = ρ.set v o2 := by
  rw [List.set_set]
theorem if_ret {Q : Ps} {t : DL.Env → Out Bool} {ρ : DL.Env} (h : t ρ = .ok true ρ) (k : Q.rt (.a (.bl false)) ρ) : WP Q (dIf t retF dNext ρ) := by
  rw [p_If, h, wo_ok, if_pos rfl, p_Bind]
  exact wo_of cE k
theorem forRet {Q : Ps} {ρ : DL.Env} {v : Nat} {src : DL.Env → Out (List D)} {cond : DL.Env → Out Bool} {ds : List D} (c : Nat → Bool) (hv : v < ρ.length) (hs : src ρ = .ok ds ρ)
    (hc : ∀ i d, ds[i]? = some d → (∀ j, j < i → c j = false) → cond (ρ.set v (some d)) = .ok (c i) (ρ.set v (some d)))
    (hr : ∀ i ρ', i < ds.length → c i = true → Q.rt (.a (.bl false)) ρ') (hk : (∀ i, i < ds.length → c i = false) → ∀ o, Q.nx (ρ.set v o)) : WP Q (dFor src (tg1 v) (dIf cond retF dNext) ρ) := by
  rw [p_For, hs, wo_ok]
  obtain ⟨o0, ho⟩ : ∃ o, ρ[v]? = some o := ⟨_, List.getElem?_eq_getElem hv⟩
  refine wp_forK (fun i ρ' => (∃ o, ρ' = ρ.set v o) ∧ ∀ j, j < i → c j = false) ⟨⟨o0, (set_same ho).symm⟩, fun j h => absurd h (by omega)⟩ ?_ ?_
  · rintro i d _ hd ⟨⟨o, rfl⟩, hp⟩ J hJ
    rw [s_tg1]
    refine ⟨by simpa using hv, ?_⟩
    rw [set_set, p_If]
    refine wo_ofB (hc i d hd hp) ?_
    cases q : c i with
    | true =>
      rw [if_pos rfl, p_Bind]
      exact wo_of cE (hr i _ (List.getElem?_eq_some_iff.mp hd).1 q)
    | false =>
      rw [if_neg (by decide), p_Next]
      refine hJ _ ⟨⟨_, rfl⟩, fun j hj => ?_⟩
      by_cases e : j = i
      · rw [e]; exact q
      · exact hp j (by omega)
  · rintro _ ⟨⟨o, rfl⟩, hp⟩
    exact hk hp o
theorem isTup {ρ : DL.Env} {i : Nat} {xs : List D} (h : ρ[i]? = some (some (.n .tup false xs))) (hf : isFL xs = true) : dB (dU (gIsi "tuple") (dVar i)) ρ = .ok true ρ :=
  bE (uE (var_eq h (by rw [isF_n, hf]; rfl)) fun P => by rw [o_isi (t := "tuple") rfl]; simp [isiT])
theorem lenT {ρ : DL.Env} {f : DL.Env → Out D} {xs : List D} (hf : f ρ = .ok (.n .tup false xs) ρ) : dU gLen f ρ = .ok (natD xs.length) ρ := uE hf fun P => by simp [natD]
theorem ixTP {ρ : DL.Env} {f g : DL.Env → Out D} {xs : List D} {i : Nat} {d : D} (hf : f ρ = .ok (.n .tup false xs) ρ) (hg : g ρ = .ok (natD i) ρ) (hi : xs[i]? = some d) (hd : isF d = true) : dOp2 gIx f g ρ = .ok d ρ := op2E hf hg fun P => ix_any (.inr rfl) hi hd
section
variable {n : Nat} {T : Tb}
variable (tT : Tr n T) (iT : Irr n T) (L : IsLat n T)
include tT iT L
end
end DC
set_option pp.maxSteps 1500
namespace DC
open PySem L2 DL
def natsOfL : List D → Option (List Nat)
  | [] => some []
  | .a (.int (.ofNat n)) :: xs => (natsOfL xs).map (n :: ·)
  | _ :: _ => none
theorem natsOfL_eq : ∀ {xs : List D} {l : List Nat}, natsOfL xs = some l → xs = l.map natD
  | [], l, h => by cases h; rfl
  | x :: xs, l, h => by
    unfold natsOfL at h
    split at h
    · cases h; rename_i e; cases e
    · rename_i n ys e
      cases e
      obtain ⟨l', h1, rfl⟩ := Option.map_eq_some_iff.mp h
      rw [natsOfL_eq h1]
      rfl
    · cases h
def chkN (r : FR) (l : List Nat) : Bool := match r with
  | .rt (.n .lst false xs) none => (match natsOfL xs with
    | some l' => decide (l' = l)
    | none => false)
  | _ => false
theorem chkN_eq {r : FR} {l : List Nat} (h : chkN r l = true) : r = .rt (.n .lst false (l.map natD)) none := by
  unfold chkN at h
  split at h
  · rename_i xs
    split at h
    · rename_i l' e
      rw [natsOfL_eq e, of_decide_eq_true h]
    · cases h
  · cases h
theorem pts5_all : ((List.range 32).all fun a => chkN (F_law_points [natD a]) (ptN 5 a)) = true := by decide +kernel
theorem two5 {n : Nat} (hn : n ≤ 5) : 2 ^ n ≤ 32 := Nat.pow_le_pow_right (n := 2) (by decide) hn
theorem lpts_eq {n m : Nat} (hn : n ≤ 5) (hm : m < 2 ^ n) : F_law_points [natD m] = .rt (ptG n m) none := by
  have h5 := two5 hn
  have h := chkN_eq (List.all_eq_true.mp pts5_all m (List.mem_range.mpr (by omega)))
  rw [h]
  unfold ptG ptN
  rw [bits_same (a := n) (b := 5) hm (by omega)]
theorem lpts_call {n m : Nat} {f : DL.Env → Out D} {ρ : DL.Env} (hn : n ≤ 5) (hm : m < 2 ^ n) (hf : f ρ = .ok (natD m) ρ) : dCall 1 F_law_points (dACons f dANil) ρ = .ok (ptG n m) ρ := call1 hf rfl (lpts_eq hn hm)
theorem mem5_eq {n m : Nat} (hn : n ≤ 60) (hm : m < 2 ^ n) : F_members [natD m] = .rt (tupN (ptN n m)) none := members_eq hm (by omega)
theorem mem5_src {n m : Nat} {f : DL.Env → Out D} {ρ : DL.Env} (hn : n ≤ 60) (hm : m < 2 ^ n) (hf : f ρ = .ok (natD m) ρ) : dIter (dCall 1 F_members (dACons f dANil)) ρ = .ok ((ptN n m).map natD) ρ := by
  have h1 := call1 hf rfl (mem5_eq hn hm)
  have := ptN_len (N := n) (m := m)
  apply out_eq
  rw [w_Iter, h1, wo_ok]
  unfold tupN
  simp
  omega
theorem cnt5_eq {n m : Nat} (hn : n ≤ 60) (hm : m < 2 ^ n) : F_count [natD m] = .rt (natD (ptN n m).length) none := by
  apply wf_eq
  unfold F_count
  rw [wf_fn]
  unfold B_count
  rw [p_Bind]
  have h1 := lenT (xs := (ptN n m).map natD) (f := dCall 1 F_members (dACons (dVar 0) dANil)) (ρ := [some (natD m)]) (call1 (var_eq rfl rfl) rfl (mem5_eq hn hm))
  rw [List.length_map] at h1
  exact wo_of h1 ⟨rfl, rfl⟩
def lexS (p q : Nat × Nat) : Prop := p.1 < q.1 ∨ (p.1 = q.1 ∧ p.2 ≤ q.2)
theorem code_prD (p : Nat × Nat) : codeU (prD p) = (p.1 : Int) * 18446744073709551616 + (p.2 : Int) := by
  show (p.1 : Int) * bU ^ 1 + ((p.2 : Int) * bU ^ 0 + 0) = _
  have h1 : bU ^ 1 = 18446744073709551616 := by decide
  have h0 : bU ^ 0 = 1 := by decide
  rw [h1, h0, Int.mul_one, Int.add_zero]
theorem lex_of {p q : Nat × Nat} (hp : p.2 < 1000000) (hq : q.2 < 1000000) (h : codeU (prD p) ≤ codeU (prD q)) : lexS p q := by
  rw [code_prD, code_prD] at h
  unfold lexS
  omega
theorem law_lowers {n : Nat} {T : Tb} {qs : List (Nat × Nat)} (hn : n ≤ 5) (he : sortU ((((List.range (2 ^ n)).filter (lowG n T)).map fun m => ((ptN n m).length, m)).map prD) = qs.map prD) (hq64 : qs.length < 64) : F_law_lower_sets_v2 [tabD n T] = .rt (.n .lst true ((qs.map fun p => p.2).map natD)) none := by
  have h5 := two5 hn
  generalize hq : (fun m => ((ptN n m).length, m)) = qf at he
  have hqf : ∀ m, qf m = ((ptN n m).length, m) := fun m => by rw [← hq]
  generalize hLS : ((List.range (2 ^ n)).filter (lowG n T)).map qf = LS at he
  have hlen : LS.length < 64 := by
    rw [← hLS, List.length_map]
    have := List.length_filter_le (lowG n T) (List.range (2 ^ n))
    rw [List.length_range] at this
    omega
  apply wf_eq
  unfold F_law_lower_sets_v2
  rw [wf_fn]
  unfold B_law_lower_sets_v2
  refine wp_step fun K hK => ?_
  simp
  apply hK
  clear hK K
  have hpe : F_law_place [natD n] = .rt (natD (2 ^ n)) none := place_eq n (by omega)
  have hpl : ∀ ρ : DL.Env, ρ[0]? = some (some (tabD n T)) → dCall 1 F_law_place (dACons (dU gLen (dVar 0)) dANil) ρ = .ok (natD (2 ^ n)) ρ := fun ρ h => call1 (tlen h) rfl hpe
  have hsrc : ∀ ρ : DL.Env, ρ[0]? = some (some (tabD n T)) → dRng1 (dCall 1 F_law_place (dACons (dU gLen (dVar 0)) dANil)) ρ = .ok ((List.range (2 ^ n)).map natD) ρ := fun ρ h => src_rng2 (hpl ρ h) (by omega)
  refine wp_cutK (fun ρ => ∃ (v2 v3 : Option D), ρ = [some (tabD n T), some (.n .lst false (LS.map prD)), v2, v3, none] ∧ (∀ d, v2 = some d → isF d = true)) (fun K hK => ?_) ?_
  · rw [wx, p_Frz, p_For, hsrc _ rfl, wo_ok]
    refine wp_forK (fun i ρ => ∃ (v2 v3 : Option D), ρ = [some (tabD n T), some (.n .lst true ((((List.range i).filter (lowG n T)).map qf).map prD)), v2, v3, none] ∧ (∀ d, v2 = some d → isF d = true)) ⟨none, none, rfl, fun d h => by cases h⟩ ?_ ?_
    · intro m d ρ hd h J hJ
      obtain ⟨v2, v3, hρ, hv2⟩ := h
      subst hρ
      obtain ⟨hm, rfl⟩ := vec_get' (f := natD) hd
      rw [s_tg1]
      refine ⟨by simp, ?_⟩
      refine wp_step fun K hK => ?_
      rw [wx, p_Bind]
      refine wo_of (w_fz (lpts_call hn hm (var_eq rfl rfl))) ?_
      rw [frz_isF _ isF_ptG, p_Set]
      refine ⟨by simp, hK _ ?_⟩
      clear hK K
      have hil := is_lowerG (T := T) (n := n) (m := m) (by omega)
      have hpln := ptN_len (N := n) (m := m)
      refine if_app (b := lowG n T m) (i := 1) (d := prD (qf m)) (xs := (((List.range m).filter (lowG n T)).map qf).map prD) (bE (call2 (var_eq rfl isF_tabD) (var_eq rfl isF_ptG) isF_tabD isF_ptG hil)) rfl (fun _ => ?_) ?_ (fun e => ?_) (fun e => ?_)
      · rw [hqf]
        exact tup2 (uE (var_eq rfl isF_ptG) fun P => by unfold ptG; simp [natD]) (var_eq rfl rfl) rfl rfl
      · rw [List.length_map, List.length_map]
        have := List.length_filter_le (lowG n T) (List.range m)
        rw [List.length_range] at this
        omega
      · refine hJ _ ⟨some (natD m), some (ptG n m), ?_, fun d h => by cases h; rfl⟩
        have e2 : ((List.range (m + 1)).filter (lowG n T)) = (List.range m).filter (lowG n T) ++ [m] := by
          rw [List.range_succ, List.filter_append]
          simp [e]
        rw [e2, List.map_append, List.map_append]
        rfl
      · refine hJ _ ⟨some (natD m), some (ptG n m), ?_, fun d h => by cases h; rfl⟩
        have e2 : ((List.range (m + 1)).filter (lowG n T)) = (List.range m).filter (lowG n T) := by
          rw [List.range_succ, List.filter_append]
          simp [e]
        rw [e2]
        rfl
    · intro ρ h
      obtain ⟨v2, v3, hρ, hv2⟩ := h
      subst hρ
      rw [range_map_len2, hLS]
      simp [frzAt]
      exact hK _ ⟨_, _, rfl, hv2⟩
  intro ρ h
  obtain ⟨v2, v3, hρ, hv2⟩ := h
  subst hρ
  rw [p_Bind]
  have hso : ∀ ρ : DL.Env, ρ[1]? = some (some (.n .lst false (LS.map prD))) → dFz (dU gSortU (dVar 1)) ρ = .ok (.n .lst false (qs.map prD)) ρ := fun ρ h => by
    have h1 : dU gSortU (dVar 1) ρ = .ok (.n .lst true (qs.map prD)) ρ := by
      apply out_eq
      rw [w_U]
      refine wo_of (var_eq h (by simp)) ?_
      rw [o_sortPr hlen (fun p hp => ?_), he]
      · exact ⟨rfl, rfl⟩
      · rw [← hLS] at hp
        obtain ⟨m, hm, rfl⟩ := List.mem_map.mp hp
        have hm := List.mem_range.mp (List.mem_filter.mp hm).1
        rw [hqf]
        have := ptN_len (N := n) (m := m)
        constructor
        · show (ptN n m).length < 1000000
          omega
        · show m < 1000000
          omega
    have := w_fz h1
    rw [frz_n, frzL_pr] at this
    exact this
  refine w_lcPr2 (ps := qs) (fun p => natD p.2) (by simp) (by simp) (fun d h => by simp at h) (fun d h => hv2 d (by simpa using h)) (by decide) (out_eq ?_) (by omega) (fun p hp => rfl) ?_
  · rw [w_Iter, hso _ rfl, wo_ok]
    simp
    omega
  · simp [ioOf]
def dnS (n : Nat) (T : Tb) (x : Nat) : Nat := mask n fun y => T y x
theorem blw_ix {ρ : DL.Env} {b n x : Nat} {T : Tb} {f : DL.Env → Out D} (h : ρ[b]? = some (some (.n .tup false (vec n (mrow n fun y x => T x y))))) (hf : f ρ = .ok (natD x) ρ) (hx : x < n) : dOp2 gIx (dVar b) f ρ = .ok (natD (dnS n T x)) ρ := op2E (var_eq h (by simp)) hf fun P => by
  show SO (gIx (.n .tup false (vec n (mrow n fun y x => T x y))) (.a (.int (x : Int)))) P = _
  rw [so_ixTF hx rfl]
  rfl
theorem andN2 {f g : DL.Env → Out D} {ρ : DL.Env} {a b : Nat} (hf : f ρ = .ok (natD a) ρ) (hg : g ρ = .ok (natD b) ρ) : dOp2 gAnd f g ρ = .ok (natD (a &&& b)) ρ := op2E hf hg fun P => rfl
theorem dn_low {n m x : Nat} {T : Tb} (hm : m < 2 ^ n) : dnS n T x &&& m = dnS n T x ↔ ∀ y, y < n → T y x = true → m.testBit y = true := by
  unfold dnS
  constructor
  · intro h y hy hT
    have h1 : (mask n fun y => T y x).testBit y = true := by rw [mask_bit, hT]; simp [hy]
    rw [← h, Nat.testBit_and, Bool.and_eq_true] at h1
    exact h1.2
  · intro h
    refine Nat.eq_of_testBit_eq fun y => ?_
    rw [Nat.testBit_and, mask_bit]
    cases e : decide (y < n) && T y x with
    | false => rfl
    | true =>
      rw [Bool.and_eq_true, decide_eq_true_iff] at e
      rw [h y e.1 e.2]
      rfl
theorem low_all {n m : Nat} {T : Tb} (hm : m < 2 ^ n) : ((ptN n m).all fun x => decide (dnS n T x &&& m = dnS n T x)) = lowG n T m := by
  unfold lowG
  rw [Bool.eq_iff_iff, List.all_eq_true, List.all_eq_true]
  constructor
  · intro h x hx
    have h1 := (dn_low hm).mp (of_decide_eq_true (h x hx))
    refine List.all_eq_true.mpr fun y hy => ?_
    cases e : T y x with
    | false => rfl
    | true =>
      rw [h1 y (List.mem_range.mp hy) e]
      rfl
  · intro h x hx
    refine decide_eq_true ((dn_low hm).mpr fun y hy hT => ?_)
    have := List.all_eq_true.mp (h x hx) y (List.mem_range.mpr hy)
    rw [hT] at this
    simpa using this
theorem lowE {ρ : DL.Env} {n m b i v : Nat} {T : Tb} (hn : n ≤ 60) (hm : m < 2 ^ n) (hb : ρ[b]? = some (some (.n .tup false (vec n (mrow n fun y x => T x y))))) (hi : ρ[i]? = some (some (natD m))) (hv : ρ[v]? = some none) (hbv : v ≠ b) (hiv : v ≠ i) :
    dU gAll (dLc [v] (dIter (dCall 1 F_members (dACons (dVar i) dANil))) (tg1 v) dYes (dOp2 gEq (dOp2 gAnd (dOp2 gIx (dVar b) (dVar v)) (dVar i)) (dOp2 gIx (dVar b) (dVar v)))) ρ = .ok (.a (.bl (lowG n T m))) ρ := by
  have hlt : v < ρ.length := (List.getElem?_eq_some_iff.mp hv).1
  have h1 : dLc [v] (dIter (dCall 1 F_members (dACons (dVar i) dANil))) (tg1 v) dYes (dOp2 gEq (dOp2 gAnd (dOp2 gIx (dVar b) (dVar v)) (dVar i)) (dOp2 gIx (dVar b) (dVar v))) ρ = .ok (.lst true ((ptN n m).map fun x => .a (.bl (decide (dnS n T x &&& m = dnS n T x))))) ρ := by
    apply out_eq
    refine w_lcN (l := ptN n m) (fun x => .a (.bl (decide (dnS n T x &&& m = dnS n T x)))) (fun d h => by rw [hv] at h; cases h) hlt (mem5_src hn hm (var_eq hi rfl)) (by have := ptN_len (N := n) (m := m); omega) (fun x hx => ?_) ⟨rfl, rfl⟩
    have hxn := (mem_ptN.mp hx).1
    have e1 : (ρ.set v (some (natD x)))[v]? = some (some (natD x)) := by rw [List.getElem?_set_self hlt]
    have e2 : (ρ.set v (some (natD x)))[b]? = some (some (.n .tup false (vec n (mrow n fun y x => T x y)))) := by rw [List.getElem?_set_ne hbv, hb]
    have e3 : (ρ.set v (some (natD x)))[i]? = some (some (natD m)) := by rw [List.getElem?_set_ne hiv, hi]
    exact eqNV (andN2 (blw_ix e2 (var_eq e1 rfl) hxn) (var_eq e3 rfl)) (blw_ix e2 (var_eq e1 rfl) hxn)
  rw [← low_all hm]
  exact uE h1 fun P => o_allL
theorem full_all : ((List.range 6).all fun n => decide (partsO ((2 ^ n - 1 : Nat) : Int) 300 0 = some ((List.range (2 ^ n)).map fun (b : Nat) => (b : Int)))) = true := by decide +kernel
theorem src_parts {ρ : DL.Env} {n : Nat} {f : DL.Env → Out D} (hn : n ≤ 5) (hf : f ρ = .ok (natD (2 ^ n - 1)) ρ) : dPartsI f ρ = .ok ((List.range (2 ^ n)).map natD) ρ := by
  have h := of_decide_eq_true (List.all_eq_true.mp full_all n (List.mem_range.mpr (by omega)))
  unfold dPartsI
  rw [hf]
  have h2 : gPartsL (natD (2 ^ n - 1)) = some ((List.range (2 ^ n)).map natD) := by
    show (partsO ((2 ^ n - 1 : Nat) : Int) 300 0).map _ = _
    rw [h]
    rw [Option.map_some, List.map_map]
    rfl
  show (match gPartsL (natD (2 ^ n - 1)) with
    | some ds => Out.ok ds ρ
    | none => .st) = _
  rw [h2]
theorem fullE {ρ : DL.Env} {n i : Nat} {T : Tb} (hn : n ≤ 5) (h : ρ[i]? = some (some (ordT n T))) : dOp2 gSub (dOp2 gShl (dC (.int 1)) (dMeth "Order" "size" 0 F_Order_size (dVar i) dANil)) (dC (.int 1)) ρ = .ok (natD (2 ^ n - 1)) ρ := by
  have h1 : dOp2 gShl (dC (.int 1)) (dMeth "Order" "size" 0 F_Order_size (dVar i) dANil) ρ = .ok (natD (2 ^ n)) ρ := op2E (cE (x := .int 1)) (sizeE h) fun P => by
    show SO (gShl (.a (.int 1)) (.a (.int (n : Int)))) P = _
    rcases (show n = 0 ∨ n = 1 ∨ n = 2 ∨ n = 3 ∨ n = 4 ∨ n = 5 by omega) with rfl | rfl | rfl | rfl | rfl | rfl <;> rfl
  refine op2E h1 (cE (x := .int 1)) fun P => ?_
  rcases (show n = 0 ∨ n = 1 ∨ n = 2 ∨ n = 3 ∨ n = 4 ∨ n = 5 by omega) with rfl | rfl | rfl | rfl | rfl | rfl <;> rfl
theorem belE {ρ : DL.Env} {n i : Nat} {T : Tb} (hn : n ≤ 60) (h : ρ[i]? = some (some (ordT n T))) : dMeth "Order" "below" 0 F_Order_below (dVar i) dANil ρ = .ok (.n .tup false (vec n (mrow n fun y x => T x y))) ρ := by
  apply out_eq
  simp [h, isF_ordT, asIns_ord, below_eq' hn, nfb]
theorem prog_lowers {n : Nat} {T : Tb} {qs : List (Nat × Nat)} (hn : n ≤ 5) (he : sortU ((((List.range (2 ^ n)).filter (lowG n T)).map fun m => ((ptN n m).length, m)).map prD) = qs.map prD) (hq64 : qs.length < 64) : F_lower_sets [ordT n T] = .rt (.n .tup false ((qs.map fun p => p.2).map natD)) none := by
  have h5 := two5 hn
  generalize hq : (fun m => ((ptN n m).length, m)) = qf at he
  have hqf : ∀ m, qf m = ((ptN n m).length, m) := fun m => by rw [← hq]
  generalize hLS : ((List.range (2 ^ n)).filter (lowG n T)).map qf = LS at he
  have hlen : LS.length < 64 := by
    rw [← hLS, List.length_map]
    have := List.length_filter_le (lowG n T) (List.range (2 ^ n))
    rw [List.length_range] at this
    omega
  apply wf_eq
  unfold F_lower_sets
  rw [wf_fn]
  unfold B_lower_sets
  refine wp_step fun K hK => ?_
  rw [wx, p_Bind]
  refine wo_of (fullE hn rfl) ?_
  rw [p_Set]
  refine ⟨by simp, hK _ ?_⟩
  clear hK K
  refine wp_step fun K hK => ?_
  rw [wx, p_Bind]
  refine wo_of (belE (by omega) rfl) ?_
  rw [p_Set]
  refine ⟨by simp, hK _ ?_⟩
  clear hK K
  refine wp_step fun K hK => ?_
  simp
  apply hK
  clear hK K
  refine wp_cutK (fun ρ => ∃ (v4 : Option D), ρ = [some (ordT n T), some (natD (2 ^ n - 1)), some (.n .tup false (vec n (mrow n fun y x => T x y))), some (.n .lst false (LS.map prD)), v4, none, none] ∧ (∀ d, v4 = some d → isF d = true)) (fun K hK => ?_) ?_
  · rw [wx, p_Frz, p_For, src_parts hn (var_eq rfl rfl), wo_ok]
    refine wp_forK (fun i ρ => ∃ (v4 : Option D), ρ = [some (ordT n T), some (natD (2 ^ n - 1)), some (.n .tup false (vec n (mrow n fun y x => T x y))), some (.n .lst true ((((List.range i).filter (lowG n T)).map qf).map prD)), v4, none, none] ∧ (∀ d, v4 = some d → isF d = true)) ⟨none, rfl, fun d h => by cases h⟩ ?_ ?_
    · intro m d ρ hd h J hJ
      obtain ⟨v4, hρ, hv4⟩ := h
      subst hρ
      obtain ⟨hm, rfl⟩ := vec_get' (f := natD) hd
      rw [s_tg1]
      refine ⟨by simp, ?_⟩
      refine if_app (b := lowG n T m) (i := 3) (d := prD (qf m)) (xs := (((List.range m).filter (lowG n T)).map qf).map prD) (bE (lowE (by omega) hm rfl rfl rfl (by decide) (by decide))) rfl (fun _ => ?_) ?_ (fun e => ?_) (fun e => ?_)
      · rw [hqf]
        exact tup2 (call1 (var_eq rfl rfl) rfl (cnt5_eq (by omega) hm)) (var_eq rfl rfl) rfl rfl
      · rw [List.length_map, List.length_map]
        have := List.length_filter_le (lowG n T) (List.range m)
        rw [List.length_range] at this
        omega
      · refine hJ _ ⟨some (natD m), ?_, fun d h => by cases h; rfl⟩
        have e2 : ((List.range (m + 1)).filter (lowG n T)) = (List.range m).filter (lowG n T) ++ [m] := by
          rw [List.range_succ, List.filter_append]
          simp [e]
        rw [e2, List.map_append, List.map_append]
        rfl
      · refine hJ _ ⟨some (natD m), ?_, fun d h => by cases h; rfl⟩
        have e2 : ((List.range (m + 1)).filter (lowG n T)) = (List.range m).filter (lowG n T) := by
          rw [List.range_succ, List.filter_append]
          simp [e]
        rw [e2]
        rfl
    · intro ρ h
      obtain ⟨v4, hρ, hv4⟩ := h
      subst hρ
      rw [range_map_len2, hLS]
      simp [frzAt]
      exact hK _ ⟨_, rfl, hv4⟩
  intro ρ h
  obtain ⟨v4, hρ, hv4⟩ := h
  subst hρ
  rw [p_Bind]
  have hso : ∀ ρ : DL.Env, ρ[3]? = some (some (.n .lst false (LS.map prD))) → dFz (dU gSortU (dVar 3)) ρ = .ok (.n .lst false (qs.map prD)) ρ := fun ρ h => by
    have h1 : dU gSortU (dVar 3) ρ = .ok (.n .lst true (qs.map prD)) ρ := by
      apply out_eq
      rw [w_U]
      refine wo_of (var_eq h (by simp)) ?_
      rw [o_sortPr hlen (fun p hp => ?_), he]
      · exact ⟨rfl, rfl⟩
      · rw [← hLS] at hp
        obtain ⟨m, hm, rfl⟩ := List.mem_map.mp hp
        have hm := List.mem_range.mp (List.mem_filter.mp hm).1
        rw [hqf]
        have := ptN_len (N := n) (m := m)
        constructor
        · show (ptN n m).length < 1000000
          omega
        · show m < 1000000
          omega
    have := w_fz h1
    rw [frz_n, frzL_pr] at this
    exact this
  rw [w_U]
  refine w_lcPr2 (ps := qs) (fun p => natD p.2) (by simp) (by simp) (fun d h => by simp at h) (fun d h => hv4 d (by simpa using h)) (by decide) (out_eq ?_) (by omega) (fun p hp => rfl) ?_
  · rw [w_Iter, hso _ rfl, wo_ok]
    simp
    omega
  · simp [ioOf]
    exact isFL_map fun _ => rfl
def szN (n m : Nat) : Nat := (ptN n m).length
theorem lowers {n : Nat} {T : Tb} (hn : n ≤ 5) : ∃ L : List Nat, F_law_lower_sets_v2 [tabD n T] = .rt (.n .lst true (L.map natD)) none ∧ F_lower_sets [ordT n T] = .rt (.n .tup false (L.map natD)) none ∧ L.Perm ((List.range (2 ^ n)).filter (lowG n T)) ∧ L.Pairwise fun a b => szN n a < szN n b ∨ (szN n a = szN n b ∧ a ≤ b) := by
  have h5 := two5 hn
  obtain ⟨qs, hp, he⟩ := unPr (sortU_perm ((((List.range (2 ^ n)).filter (lowG n T)).map fun m => ((ptN n m).length, m)).map prD))
  have hq64 : qs.length < 64 := by
    rw [hp.length_eq, List.length_map]
    have := List.length_filter_le (lowG n T) (List.range (2 ^ n))
    rw [List.length_range] at this
    omega
  refine ⟨qs.map fun p => p.2, law_lowers hn he hq64, prog_lowers hn he hq64, ?_, ?_⟩
  · have := hp.map fun p => p.2
    rw [List.map_map] at this
    have e : ((fun p : Nat × Nat => p.2) ∘ fun m => ((ptN n m).length, m)) = id := rfl
    rw [e, List.map_id] at this
    exact this
  · have hs := sortU_sorted ((((List.range (2 ^ n)).filter (lowG n T)).map fun m => ((ptN n m).length, m)).map prD)
    rw [he, List.pairwise_map] at hs
    have hb : ∀ q ∈ qs, q.1 = szN n q.2 ∧ q.2 < 2 ^ n := fun q hq => by
      obtain ⟨m, hm, rfl⟩ := List.mem_map.mp (hp.mem_iff.mp hq)
      exact ⟨rfl, List.mem_range.mp (List.mem_filter.mp hm).1⟩
    rw [List.pairwise_map]
    refine hs.imp_of_mem fun ha hb' h => ?_
    have h1 := hb _ ha
    have h2 := hb _ hb'
    have := lex_of (by omega) (by omega) h
    unfold lexS at this
    rw [h1.1, h2.1] at this
    exact this
end DC
set_option pp.maxSteps 1500
namespace DC
open PySem L2 DL
section
variable {n : Nat} {T : Tb} (hn : n ≤ 60)
include hn
end
end DC
set_option pp.maxSteps 1500
namespace DC
open PySem L2 DL
theorem itL_get {vs : List Nat} {i : Nat} (h : i < vs.length) : vs[i]? = some (itL vs i) := by
  unfold itL
  rw [List.getD_eq_getElem?_getD, List.getElem?_eq_getElem h]
  rfl
section
variable {n : Nat} {T : Tb} (hn : n ≤ 60) (tT : Tr n T) (iT : Irr n T) (L : IsLat n T)
include tT iT L
include hn
end
end DC
set_option pp.maxSteps 1500
namespace DC
open PySem L2 DL
def BadL (n : Nat) (T : Tb) (d : D) : Prop := isF d = true ∧ F_takes_lattice [latD false n T, d] = .rt (.a (.bl false)) none
theorem lstIs {o : Bool} {xs : List D} (hf : isFL xs = true) {P : D → Prop} : SO (gIsi "tuple" (.n .lst false xs)) P = P (.a (.bl false)) := by rw [o_isi (t := "list") rfl]; simp [isiT]
theorem nonIs {P : D → Prop} : SO (gIsi "tuple" (.a .non)) P = P (.a (.bl false)) := by rw [o_isi (t := "NoneType") rfl]; simp [isiT]
def AllBad (n : Nat) (T : Tb) (m : Nat) (xs : List D) : Prop := (∀ d ∈ xs, BadL n T d) ∧ xs.length ≤ m
theorem AllBad.fl {n m : Nat} {T : Tb} {xs : List D} (h : AllBad n T m xs) : isFL xs = true := isFL_all.mpr fun d hd => (h.1 d hd).1
section
variable {n : Nat} {T : Tb} (hn : n ≤ 60) (h0 : 0 < n)
include hn
end
end DC
set_option pp.maxSteps 1500
namespace DC
open PySem L2 DL
end DC
set_option pp.maxSteps 1500
namespace DC
open PySem L2 DL
def Dat : Nat → D → Prop
  | _, .a (.str s) => strG s = true
  | _, .a _ => True
  | 0, .n _ _ _ => False
  | k + 1, .n kd o xs => (kd = .tup ∨ kd = .lst) ∧ o = false ∧ xs.length ≤ 60 ∧ ∀ x ∈ xs, Dat k x
theorem dat_cases {k : Nat} {d : D} (h : Dat (k + 1) d) : (∃ x, d = .a x ∧ ∀ s, x = .str s → strG s = true) ∨ ∃ kd xs, (kd = Kd.tup ∨ kd = .lst) ∧ d = .n kd false xs ∧ xs.length ≤ 60 ∧ ∀ x ∈ xs, Dat k x := by
  cases d with
  | a x =>
    refine .inl ⟨x, rfl, fun s e => ?_⟩
    subst e
    exact h
  | n kd o xs =>
    obtain ⟨h1, h2, h3, h4⟩ := h
    subst h2
    exact .inr ⟨kd, xs, h1, rfl, h3, h4⟩
theorem dat_f : ∀ {k : Nat} {d : D}, Dat k d → isF d = true
  | _, .a _, _ => rfl
  | 0, .n _ _ _, h => h.elim
  | k + 1, .n kd o xs, ⟨_, h2, _, h4⟩ => by
    subst h2
    rw [isF_n, isFL_all.mpr fun x hx => dat_f (h4 x hx)]
    rfl
theorem dat_fl {k : Nat} {xs : List D} (h : ∀ x ∈ xs, Dat k x) : isFL xs = true := isFL_all.mpr fun x hx => dat_f (h x hx)
theorem dat_str {k : Nat} {s : Str} (h : Dat k (.a (.str s))) : strG s = true := by cases k <;> exact h
theorem dat_pD : ∀ {k m : Nat} {d : D}, k ≤ m → Dat k d → pD m d = true
  | _, _, .a (.str _), _, h => by simpa [pD] using dat_str h
  | _, _, .a .non, _, _ => by simp [pD]
  | _, _, .a (.bl _), _, _ => by simp [pD]
  | _, _, .a (.int _), _, _ => by simp [pD]
  | 0, _, .n _ _ _, _, h => h.elim
  | k + 1, m, .n kd o xs, hm, ⟨h1, h2, _, h4⟩ => by
    obtain ⟨m, rfl⟩ : ∃ j, m = j + 1 := ⟨m - 1, by omega⟩
    have : pDL m xs = true := pDL_all fun x hx => dat_pD (by omega) (h4 x hx)
    rcases h1 with rfl | rfl
    · simp [pD, this]
    · simp [pD, this]
theorem dat_tup {k : Nat} {d : D} (h : Dat (k + 1) d) : (∃ xs, d = .n .tup false xs ∧ xs.length ≤ 60 ∧ ∀ x ∈ xs, Dat k x) ∨ ∀ P : D → Prop, SO (gIsi "tuple" d) P = P (.a (.bl false)) := by
  rcases dat_cases h with ⟨x, rfl, _⟩ | ⟨kd, xs, hk, rfl, hl, hx⟩
  · refine .inr fun P => ?_
    cases x with
    | non => exact nonIs
    | bl b => rw [o_isi (t := "bool") rfl]; simp [isiT]
    | int z => rw [o_isi (t := "int") rfl]; simp [isiT]
    | str s => rw [o_isi (t := "str") rfl]; simp [isiT]
  · rcases hk with rfl | rfl
    · exact .inl ⟨xs, rfl, hl, hx⟩
    · exact .inr fun P => lstIs (o := false) (dat_fl hx)
theorem isint_no {d : D} (hf : isF d = true) (h1 : ∀ P : D → Prop, SO (gIsi "int" d) P = P (.a (.bl false))) : F_is_integer [d] = .rt (.a (.bl false)) none := by
  apply wf_eq
  unfold F_is_integer
  rw [wf_fn]
  unfold B_is_integer
  show WP _ (dBind _ _ [some d])
  rw [p_Bind]
  exact wo_of (andV0 (uE (var_eq rfl hf) h1)) ⟨rfl, rfl⟩
theorem dat_int {k : Nat} {d : D} (h : Dat k d) : (∃ z : Int, d = .a (.int z)) ∨ F_is_integer [d] = .rt (.a (.bl false)) none := by
  have hf := dat_f h
  cases d with
  | a x =>
    cases x with
    | non => exact .inr isint_non
    | bl b => exact .inr isint_bl
    | int z => exact .inl ⟨z, rfl⟩
    | str s => exact .inr (isint_no rfl fun P => by rw [o_isi (t := "str") rfl]; simp [isiT])
  | n kd o xs =>
    cases k with
    | zero => exact h.elim
    | succ k =>
      obtain ⟨h1, h2, _, _⟩ := h
      rcases h1 with rfl | rfl
      · exact .inr (isint_no hf fun P => by rw [o_isi (t := "tuple") rfl]; simp [isiT])
      · exact .inr (isint_no hf fun P => by rw [o_isi (t := "list") rfl]; simp [isiT])
theorem dat_word {k : Nat} {d : D} {w : Str} (hk : k ≤ 60) (h : Dat k d) (hw : strG w = true) : ∃ b : Bool, (∀ P : D → Prop, SO (gEq d (.a (.str w))) P = P (.a (.bl b))) ∧ (∀ P : D → Prop, SO (gNe d (.a (.str w))) P = P (.a (.bl (!b)))) ∧ (b = true → d = .a (.str w)) := by
  have hp := dat_pD hk h
  have hwp : pD 60 (.a (.str w)) = true := by simpa [pD] using hw
  cases d with
  | a x =>
    cases x with
    | str s => exact ⟨decide (s = w), fun P => o_eqS, fun P => o_neS, fun e => by rw [of_decide_eq_true e]⟩
    | non => exact ⟨false, fun P => rfl, fun P => rfl, fun e => by cases e⟩
    | bl b => exact ⟨false, fun P => by cases b <;> rfl, fun P => by cases b <;> rfl, fun e => by cases e⟩
    | int z => exact ⟨false, fun P => rfl, fun P => rfl, fun e => by cases e⟩
  | n kd o xs =>
    have hkd : kd = .tup ∨ kd = .lst := by
      cases k with
      | zero => exact h.elim
      | succ k => exact h.1
    clear h
    have he : eqD (.n kd o xs) (.a (.str w)) = false := by
      rcases hkd with rfl | rfl
      · simp [eqD]
      · simp [eqD]
    refine ⟨false, fun P => ?_, fun P => ?_, fun e => by cases e⟩
    · unfold gEq gOr gEqA gEqP
      simp [hp, hwp, he]
    · unfold gNe gOr gNeA gNeP
      simp [hp, hwp, he]
end DC
set_option pp.maxSteps 1500
namespace DC
open PySem L2 DL
section
variable {n : Nat} {T : Tb}
end
end DC
set_option pp.maxSteps 1500
namespace DC
open PySem L2 DL
section
variable {n : Nat} {T : Tb}
end
end DC
set_option pp.maxSteps 1500
namespace DC
open PySem L2 DL
section
variable {n : Nat} {T : Tb} (hn : n ≤ 60) (tT : Tr n T) (iT : Irr n T) (L : IsLat n T)
include hn tT iT L
end
end DC
set_option pp.maxSteps 1500
namespace DC
open PySem L2 DL
theorem ord_m2 {F : List D → FR} {m : Str} {i n : Nat} {T : Tb} {ρ : DL.Env} {a b d : D} {fa fb : DL.Env → Out D} (h : ρ[i]? = some (some (ordT n T))) (hm : m ∉ (["n", "above"] : List Str)) (ha : fa ρ = .ok a ρ) (hfa : isF a = true) (hb : fb ρ = .ok b ρ) (hfb : isF b = true) (hF : F [ordT n T, a, b] = .rt d none) : dMeth "Order" m 2 F (dVar i) (dACons fa (dACons fb dANil)) ρ = .ok d ρ := by
  apply out_eq
  have hf : isFL [.a (.int (n : Int)), .n .tup false (vec n (mrow n T))] = true := by simp [isFL_cons, isF_n, isFL_mrow]
  rw [w_Meth, var_eq h isF_ordT, wo_ok, asIns_ord']
  refine ⟨⟨rfl, hm, hf⟩, ?_⟩
  rw [w_Call, w_ACons, ha, wo_ok, w_ACons, hb, wo_ok, w_ANil]
  simp [hfa, hfb]
  rw [frz_isF _ hfa, frz_isF _ hfb]
  show WF _ _ (F [ordT n T, a, b])
  rw [hF]
  rfl
theorem nLes : ("less" : Str) ∉ (["n", "above"] : List Str) := by decide +kernel
theorem lessG {n x y i : Nat} {T : Tb} {ρ : DL.Env} {fa fb : DL.Env → Out D} (h : ρ[i]? = some (some (ordT n T))) (ha : fa ρ = .ok (natD x) ρ) (hb : fb ρ = .ok (natD y) ρ) (hx : x < n) (hy : y < n) : dMeth "Order" "less" 2 F_Order_less (dVar i) (dACons fa (dACons fb dANil)) ρ = .ok (.a (.bl (T x y))) ρ := ord_m2 h nLes ha rfl hb rfl (less_eq hx hy)
theorem fldE {n i : Nat} {T : Tb} {ρ : DL.Env} (h : ρ[i]? = some (some (ordT n T))) : dU (gFld "n") (dVar i) ρ = .ok (natD n) ρ := uE (var_eq h isF_ordT) fun P => fldN
section
variable {n m : Nat} {T S : Tb}
theorem itTup {ρ : DL.Env} {i : Nat} {xs : List D} (h : ρ[i]? = some (some (.n .tup false xs))) (hf : isFL xs = true) (hl : xs.length ≤ 100000) : dIter (dVar i) ρ = .ok xs ρ := by
  apply out_eq
  rw [w_Iter]
  refine wo_of (var_eq h (by rw [isF_n, hf]; rfl)) ?_
  simp [hf]
  omega
end
end DC
set_option pp.maxSteps 1500
namespace DC
open PySem L2 DL
section
variable {n m : Nat} {T S : Tb}
end
end DC
set_option pp.maxSteps 1500
namespace DC
open PySem L2 DL
end DC
set_option pp.maxSteps 1500
namespace DC
open PySem L2 DL
theorem isT_E {ρ : DL.Env} {f : DL.Env → Out D} {xs : List D} (hf : f ρ = .ok (.n .tup false xs) ρ) (hx : isFL xs = true) : dB (dU (gIsi "tuple") f) ρ = .ok true ρ :=
  bE (uE hf fun P => by rw [o_isi (t := "tuple") rfl]; simp [isiT])
section
variable {n m : Nat} {T S : Tb}
end
end DC
set_option pp.maxSteps 1500
namespace DC
open PySem L2 DL
abbrev retV (v : Bool) : DL.Env → Fl := dBind (dC (.bl v)) fun d ρ => .rt d ρ
theorem forRetV {Q : Ps} {ρ : DL.Env} {v : Nat} {w : Bool} {src : DL.Env → Out (List D)} {cond : DL.Env → Out Bool} {ds : List D} (c : Nat → Bool) (hv : v < ρ.length) (hs : src ρ = .ok ds ρ)
    (hc : ∀ i d, ds[i]? = some d → (∀ j, j < i → c j = false) → cond (ρ.set v (some d)) = .ok (c i) (ρ.set v (some d)))
    (hr : ∀ i ρ', i < ds.length → c i = true → Q.rt (.a (.bl w)) ρ') (hk : (∀ i, i < ds.length → c i = false) → ∀ o, Q.nx (ρ.set v o)) : WP Q (dFor src (tg1 v) (dIf cond (retV w) dNext) ρ) := by
  rw [p_For, hs, wo_ok]
  obtain ⟨o0, ho⟩ : ∃ o, ρ[v]? = some o := ⟨_, List.getElem?_eq_getElem hv⟩
  refine wp_forK (fun i ρ' => (∃ o, ρ' = ρ.set v o) ∧ ∀ j, j < i → c j = false) ⟨⟨o0, (set_same ho).symm⟩, fun j h => absurd h (by omega)⟩ ?_ ?_
  · rintro i d _ hd ⟨⟨o, rfl⟩, hp⟩ J hJ
    rw [s_tg1]
    refine ⟨by simpa using hv, ?_⟩
    rw [set_set, p_If]
    refine wo_ofB (hc i d hd hp) ?_
    cases q : c i with
    | true =>
      rw [if_pos rfl, p_Bind]
      exact wo_of cE (hr i _ (List.getElem?_eq_some_iff.mp hd).1 q)
    | false =>
      rw [if_neg (by decide), p_Next]
      refine hJ _ ⟨⟨_, rfl⟩, fun j hj => ?_⟩
      by_cases e : j = i
      · rw [e]; exact q
      · exact hp j (by omega)
  · rintro _ ⟨⟨o, rfl⟩, hp⟩
    exact hk hp o
def freeB (n : Nat) (T : Tb) (x : Nat) (r : List Nat) : Bool := (List.range n).all fun y => !(T y x && !decide (y ∈ r))
def extR (n : Nat) (T : Tb) (r : List Nat) (m : Nat) : List (List Nat) := ((List.range m).filter fun x => !decide (x ∈ r) && freeB n T x r).map fun x => r ++ [x]
def linK (n : Nat) (T : Tb) : Nat → List (List Nat)
  | 0 => [[]]
  | k + 1 => (linK n T k).flatMap fun r => extR n T r n
theorem extR_succ {n m : Nat} {T : Tb} {r : List Nat} : extR n T r (m + 1) = extR n T r m ++ (if (!decide (m ∈ r) && freeB n T m r) = true then [r ++ [m]] else []) := by
  unfold extR
  rw [List.range_succ, List.filter_append, List.map_append]
  cases q : (!decide (m ∈ r) && freeB n T m r) with
  | true => simp [q]
  | false => simp [q]
theorem extR_len {n m : Nat} {T : Tb} {r : List Nat} : (extR n T r m).length ≤ m := by
  unfold extR
  rw [List.length_map]
  have := List.length_filter_le (fun x => !decide (x ∈ r) && freeB n T x r) (List.range m)
  rwa [List.length_range] at this
theorem fm_len {n : Nat} {T : Tb} : ∀ {L : List (List Nat)}, (L.flatMap fun r => extR n T r n).length ≤ L.length * n
  | [] => by simp
  | r :: L => by
    have h1 := extR_len (n := n) (m := n) (T := T) (r := r)
    have h2 := fm_len (n := n) (T := T) (L := L)
    rw [List.flatMap_cons, List.length_append, List.length_cons, Nat.succ_mul]
    omega
theorem linK_ok {n : Nat} {T : Tb} : ∀ {k : Nat} {r : List Nat}, r ∈ linK n T k → r.length = k ∧ r.Nodup ∧ ∀ y ∈ r, y < n
  | 0, r, h => by
    have : r = [] := by simpa [linK] using h
    subst this
    simp
  | k + 1, r, h => by
    obtain ⟨q, hq, h⟩ := List.mem_flatMap.mp h
    obtain ⟨h1, h2, h3⟩ := linK_ok hq
    unfold extR at h
    obtain ⟨x, hx, rfl⟩ := List.mem_map.mp h
    obtain ⟨hx1, hx2⟩ := List.mem_filter.mp hx
    rw [Bool.and_eq_true, Bool.not_eq_true', decide_eq_false_iff_not] at hx2
    refine ⟨by simp [h1], List.nodup_append.mpr ⟨h2, by simp, fun a ha b hb e => ?_⟩, fun y hy => ?_⟩
    · have : b = x := by simpa using hb
      rw [this] at e
      rw [e] at ha
      exact hx2.1 ha
    · rcases List.mem_append.mp hy with q | q
      · exact h3 y q
      · have : y = x := by simpa using q
        rw [this]; exact List.mem_range.mp hx1
abbrev rwsD (o : Bool) (L : List (List Nat)) : D := .n .lst o (L.map tupN)
theorem isF_rws {L : List (List Nat)} : isF (rwsD false L) = true := by rw [isF_n, isFL_map fun _ => isF_tupN]; rfl
theorem frz_rws {o : Bool} {L : List (List Nat)} : frz (rwsD o L) = rwsD false L := by rw [frz_n, frzL_isFL _ (isFL_map fun _ => isF_tupN)]
theorem itRws {ρ : DL.Env} {f : DL.Env → Out D} {L : List (List Nat)} (h : f ρ = .ok (rwsD false L) ρ) (hl : L.length ≤ 100000) : dIter f ρ = .ok (L.map tupN) ρ := by
  apply out_eq
  rw [w_Iter, h, wo_ok]
  have : isFL (L.map tupN) = true := isFL_map fun _ => isF_tupN
  simp [this]
  omega
section
variable {n : Nat} {T : Tb} (hn : n ≤ 60)
include hn
theorem free_eq {x : Nat} {r : List Nat} (hx : x < n) : F_is_free [ordT n T, natD x, tupN r] = .rt (.a (.bl (freeB n T x r))) none := by
  have hv : isF (tupN r) = true := isF_tupN
  apply wf_eq
  unfold F_is_free
  rw [wf_fn]
  unfold B_is_free
  show WP _ (dSeq _ _ [some (ordT n T), some (natD x), some (tupN r), none])
  refine wp_cutK (fun ρ => (∀ y, y < n → (T y x && !decide (y ∈ r)) = false)) (fun K hK => ?_) ?_
  · rw [wx]
    refine forRet (ds := (List.range n).map natD) (fun y => T y x && !decide (y ∈ r)) (by simp) (src_rngN (fldE rfl) (by omega)) ?_ (fun i ρ' hi h => ⟨?_, rfl⟩) fun h o => hK _ fun y hy => h y (by simpa using hy)
    · intro i d hd _
      obtain ⟨hi, hde⟩ := vec_get' (n := n) (f := natD) (i := i) (d := d) hd
      subst hde
      exact andE (bE (lessG rfl (var_eq rfl rfl) (var_eq rfl rfl) hi hx)) fun _ => bE (op2E (a := natD i) (b := tupN r) (var_eq rfl rfl) (var_eq rfl hv) fun P => o_notinN (.inr rfl))
    · symm
      unfold freeB
      have : (List.range n).all (fun y => !(T y x && !decide (y ∈ r))) = false := by
        rw [List.all_eq_false]
        exact ⟨i, List.mem_range.mpr (by simpa using hi), by rw [h]; decide⟩
      rw [this]
  intro ρ h
  rw [p_Bind]
  refine wo_of (cE (x := .bl true)) ⟨?_, rfl⟩
  unfold freeB
  have : (List.range n).all (fun y => !(T y x && !decide (y ∈ r))) = true := List.all_eq_true.mpr fun y hy => by rw [h y (List.mem_range.mp hy)]; rfl
  rw [this]
theorem linear_eq (hc : ∀ k, k ≤ n → (linK n T k).length ≤ 1000) : F_linear_rows [ordT n T] = .rt (rwsD false (linK n T n)) none := by
  apply wf_eq
  unfold F_linear_rows
  rw [wf_fn]
  unfold B_linear_rows
  show WP _ (dSeq _ _ [some (ordT n T), none, none, none, none, none])
  refine wp_cutK (fun ρ => ρ = [some (ordT n T), some (rwsD false [[]]), none, none, none, none]) (fun K hK => ?_) ?_
  · rw [wx, p_Bind]
    have h1 := w_fz (lstG (ρ := [some (ordT n T), none, none, none, none, none]) (agC (tupG agN rfl (by simp)) agN) (by simp))
    refine wo_of h1 ?_
    rw [p_Set]
    exact ⟨by simp, hK _ rfl⟩
  rintro _ rfl
  refine wp_cutK (fun ρ => ∃ o2 o3 o4 o5, ρ = [some (ordT n T), some (rwsD false (linK n T n)), o2, o3, o4, o5]) (fun K hK => ?_) ?_
  · rw [wx, p_For, src_rngN (n := n) (fldE rfl) (by omega), wo_ok]
    refine wp_forK (fun i ρ => ∃ o2 o3 o4 o5, ρ = [some (ordT n T), some (rwsD false (linK n T i)), o2, o3, o4, o5]) ⟨none, none, none, none, rfl⟩ ?_ ?_
    · rintro i d _ hd ⟨o2, o3, o4, o5, rfl⟩ J hJ
      obtain ⟨hi, hde⟩ := vec_get' (n := n) (f := natD) (i := i) (d := d) hd
      subst hde
      have hLl := hc i (by omega)
      rw [s_tg1]
      refine ⟨by simp, ?_⟩
      have hJ' : ∀ ρ', (∃ o2 o3 o4 o5, ρ' = [some (ordT n T), some (rwsD false ((linK n T i).flatMap fun r => extR n T r n)), o2, o3, o4, o5]) → J ρ' := hJ
      have hLr : ∀ r ∈ linK n T i, r.length ≤ 1000 := fun r hr => by have := (linK_ok hr).1; omega
      generalize linK n T i = L at hLl hJ' hLr ⊢
      clear hJ
      refine wp_cutK (fun ρ => ρ = [some (ordT n T), some (rwsD false L), some (natD i), some (rwsD true []), o4, o5]) (fun K2 hK2 => ?_) ?_
      · rw [wx, p_Bind]
        refine wo_of (x := .lst true []) (by rfl) ?_
        rw [p_Set]
        exact ⟨by simp, hK2 _ rfl⟩
      rintro _ rfl
      refine wp_cutK (fun ρ => ∃ o4 o5, ρ = [some (ordT n T), some (rwsD false L), some (natD i), some (rwsD false (L.flatMap fun r => extR n T r n)), o4, o5]) (fun K2 hK2 => ?_) ?_
      · have hit : dIter (dFz (dU gList (dVar 1))) [some (ordT n T), some (rwsD false L), some (natD i), some (rwsD true []), o4, o5] = .ok (L.map tupN) [some (ordT n T), some (rwsD false L), some (natD i), some (rwsD true []), o4, o5] := by
          have h1 : dU gList (dVar 1) [some (ordT n T), some (rwsD false L), some (natD i), some (rwsD true []), o4, o5] = .ok (rwsD true L) [some (ordT n T), some (rwsD false L), some (natD i), some (rwsD true []), o4, o5] := uE (var_eq rfl isF_rws) fun P => by
            unfold gList
            have : isFL (L.map tupN) = true := isFL_map fun _ => isF_tupN
            simp [this]
          have h2 := w_fz h1
          rw [frz_rws] at h2
          exact itRws h2 (by omega)
        rw [wx, p_Frz, p_For]
        refine wo_of3 hit ?_
        refine wp_forK (fun j ρ => ∃ o4 o5, ρ = [some (ordT n T), some (rwsD false L), some (natD i), some (rwsD true ((L.take j).flatMap fun r => extR n T r n)), o4, o5]) ⟨o4, o5, rfl⟩ ?_ ?_
        · rintro j d _ hd ⟨o4, o5, rfl⟩ J2 hJ2
          obtain ⟨r, hr, rfl⟩ := par_get hd
          have hvr : isF (tupN r) = true := isF_tupN
          have tk : L.take (j + 1) = L.take j ++ [r] := by rw [List.take_succ, hr]; rfl
          have hbl : ((L.take j).flatMap fun r => extR n T r n).length ≤ 60000 := by
            have h1 := fm_len (n := n) (T := T) (L := L.take j)
            have h2 : (L.take j).length ≤ 1000 := by rw [List.length_take]; omega
            have h3 : (L.take j).length * n ≤ 1000 * 60 := Nat.mul_le_mul h2 hn
            omega
          have hJ2' : ∀ ρ', (∃ o4 o5, ρ' = [some (ordT n T), some (rwsD false L), some (natD i), some (rwsD true (((L.take j).flatMap fun r => extR n T r n) ++ extR n T r n)), o4, o5]) → J2 ρ' := fun ρ' h => hJ2 ρ' (by
            rw [tk, List.flatMap_append]
            simpa using h)
          generalize ((L.take j).flatMap fun r => extR n T r n) = acc0 at hbl hJ2' ⊢
          clear hJ2
          rw [s_tg1]
          refine ⟨by simp, ?_⟩
          show WP _ (dFor _ _ _ [some (ordT n T), some (rwsD false L), some (natD i), some (rwsD true acc0), some (tupN r), o5])
          rw [p_For, src_rngN (n := n) (fldE rfl) (by omega), wo_ok]
          refine wp_forK (fun x ρ => ∃ o5, ρ = [some (ordT n T), some (rwsD false L), some (natD i), some (rwsD true (acc0 ++ extR n T r x)), some (tupN r), o5]) ⟨o5, by simp [extR]⟩ ?_ ?_
          · rintro x d _ hd ⟨o5, rfl⟩ J3 hJ3
            obtain ⟨hx, hde⟩ := vec_get' (n := n) (f := natD) (i := x) (d := d) hd
            subst hde
            have hel := extR_len (n := n) (m := x) (T := T) (r := r)
            rw [extR_succ, ← List.append_assoc] at hJ3
            obtain ⟨acc, hacc⟩ : ∃ a, a = acc0 ++ extR n T r x := ⟨_, rfl⟩
            have hal : acc.length ≤ 61000 := by rw [hacc, List.length_append]; omega
            rw [← hacc] at hJ3 ⊢
            clear hacc
            rw [s_tg1]
            refine ⟨by simp, ?_⟩
            have hrl := hLr r (List.mem_of_getElem? hr)
            refine if_app (b := !decide (x ∈ r) && freeB n T x r) (i := 3) (d := tupN (r ++ [x])) (xs := acc.map tupN) (andE (bE (op2E (a := natD x) (b := tupN r) (var_eq rfl rfl) (var_eq rfl hvr) fun P => o_notinN (.inr rfl))) fun _ => bE (call3 (var_eq rfl isF_ordT) (var_eq rfl rfl) (var_eq rfl hvr) isF_ordT rfl hvr (free_eq hn hx))) rfl (fun _ => op2E (a := tupN r) (b := .n .tup false [natD x]) (var_eq rfl hvr) (tup1 (var_eq rfl rfl) rfl) fun P => add_tup2 hrl) (by rw [List.length_map]; omega) (fun e => ?_) (fun e => ?_)
            · refine hJ3 _ ⟨some (natD x), ?_⟩
              rw [if_pos e]
              unfold rwsD
              rw [List.map_append]
              rfl
            · refine hJ3 _ ⟨some (natD x), ?_⟩
              rw [if_neg (by rw [e]; decide), List.append_nil]
              rfl
          · rintro _ ⟨o5, rfl⟩
            rw [range_map_len2]
            exact hJ2' _ ⟨some (tupN r), o5, rfl⟩
        · rintro _ ⟨o4, o5, rfl⟩
          rw [List.length_map, List.take_length]
          have fz := frz_rws (o := true) (L := L.flatMap fun r => extR n T r n)
          have e : frzAt 3 [some (ordT n T), some (rwsD false L), some (natD i), some (rwsD true (L.flatMap fun r => extR n T r n)), o4, o5] = [some (ordT n T), some (rwsD false L), some (natD i), some (rwsD false (L.flatMap fun r => extR n T r n)), o4, o5] := by
            unfold frzAt
            show List.set _ 3 (some (frz (rwsD true (L.flatMap fun r => extR n T r n)))) = _
            rw [fz]
            rfl
          show K2 (frzAt 3 _)
          rw [e]
          exact hK2 _ ⟨o4, o5, rfl⟩
      rintro _ ⟨o4, o5, rfl⟩
      rw [p_Bind]
      refine wo_of (var_eq rfl isF_rws) ?_
      rw [p_Set]
      exact ⟨by simp, hJ' _ ⟨some (natD i), some (rwsD false (L.flatMap fun r => extR n T r n)), o4, o5, rfl⟩⟩
    · rintro _ ⟨o2, o3, o4, o5, rfl⟩
      rw [range_map_len2]
      exact hK _ ⟨o2, o3, o4, o5, rfl⟩
  rintro _ ⟨o2, o3, o4, o5, rfl⟩
  rw [p_Bind]
  exact wo_of (var_eq rfl isF_rws) ⟨rfl, rfl⟩
end
end DC
set_option pp.maxSteps 1500
namespace DC
open PySem L2 DL
theorem wf_ex {P : D → Option D → Prop} {r : FR} (h : WF NoE P r) : ∃ d io, r = .rt d io ∧ P d io := by
  cases r with
  | st => exact h.elim
  | ex e io => exact h.elim
  | rt d io => exact ⟨d, io, rfl, h⟩
def opT (T : Tb) : Tb := fun x y => !decide (x = y) && (!T x y && !T y x)
abbrev prsD (o : Bool) (ps : List (Nat × Nat)) : D := .n .lst o (ps.map prD)
theorem isF_prs {ps : List (Nat × Nat)} : isF (prsD false ps) = true := by simp
def lefP (ps : List (Nat × Nat)) (r : List Nat) : List (Nat × Nat) := ps.filter fun p => decide (r.idxOf p.2 < r.idxOf p.1)
theorem lefP_len {ps : List (Nat × Nat)} {r : List Nat} : (lefP ps r).length ≤ ps.length := List.length_filter_le _ _
section
variable {n : Nat} {T : Tb} (hn : n ≤ 60)
include hn
theorem open_eq : F_open_pairs [ordT n T] = .rt (prsD false (prs n (opT T))) none := by
  apply wf_eq
  unfold F_open_pairs
  rw [wf_fn]
  unfold B_open_pairs
  show WP _ (dSeq _ _ [some (ordT n T), none, none, none])
  refine wp_cutK (fun ρ => ρ = [some (ordT n T), some (prsD true []), none, none]) (fun K hK => ?_) ?_
  · rw [wx, p_Bind]
    refine wo_of (x := .lst true []) (by rfl) ?_
    rw [p_Set]
    exact ⟨by simp, hK _ rfl⟩
  rintro _ rfl
  refine wp_cutK (fun ρ => ∃ v2 v3, ρ = [some (ordT n T), some (prsD false (prs n (opT T))), v2, v3]) (fun K hK => ?_) ?_
  · rw [wx, p_Frz, p_For, src_rngN (n := n) (fldE rfl) (by omega), wo_ok]
    refine wp_forK (fun i ρ => ∃ v2 v3, ρ = [some (ordT n T), some (prsD true ((List.range i).flatMap (rowp n (opT T)))), v2, v3]) ⟨none, none, rfl⟩ ?_ ?_
    · rintro x d _ hd ⟨v2, v3, rfl⟩ J hJ
      obtain ⟨hx, hde⟩ := vec_get' (n := n) (f := natD) (i := x) (d := d) hd
      subst hde
      rw [s_tg1]
      refine ⟨by simp, ?_⟩
      show WP _ (dFor _ _ _ [some (ordT n T), some (prsD true ((List.range x).flatMap (rowp n (opT T)))), some (natD x), v3])
      rw [p_For, src_rngN (n := n) (fldE rfl) (by omega), wo_ok]
      refine wp_forK (fun j ρ => ∃ v3, ρ = [some (ordT n T), some (prsD true ((List.range x).flatMap (rowp n (opT T)) ++ ((List.range j).filter (opT T x)).map fun y => (x, y))), some (natD x), v3]) ⟨v3, by simp⟩ ?_ ?_
      · rintro y d _ hd ⟨v3, rfl⟩ J2 hJ2
        obtain ⟨hy, hde⟩ := vec_get' (n := n) (f := natD) (i := y) (d := d) hd
        subst hde
        rw [s_tg1]
        refine ⟨by simp, ?_⟩
        generalize hps : (List.range x).flatMap (rowp n (opT T)) ++ ((List.range y).filter (opT T x)).map (fun y => (x, y)) = ps at *
        refine if_app (b := opT T x y) (i := 1) (d := prD (x, y)) (xs := ps.map prD) ?_ rfl (fun _ => rfl) ?_ (fun e => ?_) (fun e => ?_)
        · exact andE (neN (var_eq rfl rfl) (var_eq rfl rfl)) fun _ => andE (notE (bE (lessG rfl (var_eq rfl rfl) (var_eq rfl rfl) hx hy))) fun _ => notE (bE (lessG rfl (var_eq rfl rfl) (var_eq rfl rfl) hy hx))
        · rw [List.length_map, ← hps, List.length_append, List.length_map]
          have h1 := prs_len (n := n) (T := opT T) x
          have h2 := List.length_filter_le (opT T x) (List.range y)
          rw [List.length_range] at h2
          have h3 : x * n ≤ 60 * 60 := Nat.mul_le_mul (by omega) (by omega)
          omega
        · refine hJ2 _ ⟨some (natD y), ?_⟩
          rw [row_succ, ← List.append_assoc, hps, e, if_pos rfl]
          unfold prsD
          rw [List.map_append]
          rfl
        · refine hJ2 _ ⟨some (natD y), ?_⟩
          rw [row_succ, ← List.append_assoc, hps, e, if_neg (by decide), List.append_nil]
          rfl
      · rintro _ ⟨v3, rfl⟩
        refine hJ _ ⟨some (natD x), v3, ?_⟩
        rw [range_map_len2, prs_take]
        rfl
    · rintro _ ⟨v2, v3, rfl⟩
      rw [range_map_len2]
      have fz : frzL (((List.range n).flatMap (rowp n (opT T))).map prD) = (prs n (opT T)).map prD := frzL_pr
      simp [frzAt, fz]
      exact hK _ ⟨_, _, rfl⟩
  rintro _ ⟨v2, v3, rfl⟩
  rw [p_Bind]
  exact wo_of (var_eq rfl isF_prs) ⟨rfl, rfl⟩
omit hn in
theorem dget_G {i x : Nat} {o : Bool} {dom : List Nat} {f : Nat → D} {ρ : DL.Env} {fe : DL.Env → Out D} (h : ρ[i]? = some (some (dctN o dom f))) (hf : fe ρ = .ok (natD x) ρ) (hx : x ∈ dom) (hd : isF (f x) = true) : dDGet i fe ρ = .ok (f x) ρ := by
  apply out_eq
  rw [w_DGet, h, so_some, so_some, asDct_N, hf, wo_ok, asKey_natD, h, so_some, so_some, asDct_N, dctAt_N, if_pos hx, so_some]
  exact ⟨hd, rfl, rfl⟩
theorem left_eq2 {r : List Nat} {ps : List (Nat × Nat)} (hr : Pm n r) (hb : Bd n ps) (hl : ps.length ≤ 10000) : F_left_open [prsD false ps, tupN r] = .rt (prsD true (lefP ps r)) none := by
  have hv : isF (tupN r) = true := isF_tupN
  have hrl := hr.len
  apply wf_eq
  unfold F_left_open
  rw [wf_fn]
  unfold B_left_open
  show WP _ (dSeq _ _ [some (prsD false ps), some (tupN r), none, none, none])
  refine wp_cutK (fun ρ => ρ = [some (prsD false ps), some (tupN r), some (dctN true [] fun x => natD (r.idxOf x)), none, none]) (fun K hK => ?_) ?_
  · rw [wx, p_Bind, wo_ok, p_Set]
    exact ⟨by simp, hK _ rfl⟩
  rintro _ rfl
  refine wp_cutK (fun ρ => ∃ o3, ρ = [some (prsD false ps), some (tupN r), some (dctN false r fun x => natD (r.idxOf x)), o3, none]) (fun K hK => ?_) ?_
  · rw [wx, p_Frz, p_For, src_rngN (n := r.length) (uE (var_eq rfl hv) fun P => tLen) (by omega), wo_ok]
    refine wp_forK (fun i ρ => ∃ o3, ρ = [some (prsD false ps), some (tupN r), some (dctN true (r.take i) fun x => natD (r.idxOf x)), o3, none]) ⟨none, rfl⟩ ?_ ?_
    · rintro i d _ hd ⟨o3, rfl⟩ J hJ
      obtain ⟨hi, hde⟩ := vec_get' (n := r.length) (f := natD) (i := i) (d := d) hd
      subst hde
      have hri : r[i]? = some r[i] := List.getElem?_eq_getElem hi
      have tk : r.take (i + 1) = addN r[i] (r.take i) := by
        unfold addN
        rw [if_neg]
        · rw [List.take_succ, hri]
          rfl
        · intro hm
          obtain ⟨j, hj⟩ := List.getElem?_of_mem hm
          have hji : j < i := by
            have := (List.getElem?_eq_some_iff.mp hj).1
            rw [List.length_take] at this
            omega
          rw [List.getElem?_take_of_lt hji] at hj
          have := List.pairwise_iff_getElem.mp hr.nd j i (by omega) hi hji
          exact this (List.getElem?_eq_some_iff.mp hj).2
      rw [s_tg1]
      refine ⟨by simp, ?_⟩
      rw [p_Bind]
      refine wo_of (var_eq (d := natD i) rfl rfl) ?_
      refine dput_G (k := r[i]) rfl (isFL_map fun _ => rfl) (ixTP (xs := r.map natD) (var_eq rfl hv) (var_eq rfl rfl) (by rw [List.getElem?_map, hri]; rfl) rfl) rfl ?_ (by unfold cap; rw [List.length_take]; omega) (hJ _ ⟨some (natD i), ?_⟩)
      · show natD i = natD (r.idxOf r[i])
        rw [hr.nd.idxOf_getElem i hi]
      · rw [tk]
        rfl
    · rintro _ ⟨o3, rfl⟩
      rw [range_map_len2, List.take_length]
      have hfz : frz (dctN true r fun x => natD (r.idxOf x)) = dctN false r fun x => natD (r.idxOf x) := by
        unfold dctN
        rw [frz_n, frzL_isFL _ (isFL_map fun _ => rfl)]
      simp [frzAt, hfz]
      exact hK _ ⟨o3, rfl⟩
  rintro _ ⟨o3, rfl⟩
  rw [p_Bind]
  refine w_lcM prD (fun p => decide (r.idxOf p.2 < r.idxOf p.1)) prD (l := ps) (fun d h => by cases h) (by simp) ?_ (by omega) (fun p hp => ?_) (fun p hp _ => var_eq rfl rfl) ⟨rfl, rfl⟩
  · apply out_eq
    rw [w_Iter]
    refine wo_of (var_eq rfl isF_prs) ?_
    simp
    omega
  · obtain ⟨h1, h2⟩ := hb p hp
    have hmem : ∀ x, x < n → x ∈ r := fun x hx => List.mem_of_getElem? (hr.at_ hx)
    have g1 : ∀ (ρ : DL.Env), ρ[4]? = some (some (prD p)) → dOp2 gIx (dVar 4) (dC (.int 0)) ρ = .ok (natD p.1) ρ := fun ρ h => ixTP (xs := [natD p.1, natD p.2]) (i := 0) (var_eq h rfl) (cE (x := .int 0)) rfl rfl
    have g2 : ∀ (ρ : DL.Env), ρ[4]? = some (some (prD p)) → dOp2 gIx (dVar 4) (dC (.int 1)) ρ = .ok (natD p.2) ρ := fun ρ h => ixTP (xs := [natD p.1, natD p.2]) (i := 1) (var_eq h rfl) (cE (x := .int 1)) rfl rfl
    exact gtE (dget_G (f := fun x => natD (r.idxOf x)) rfl (g1 _ rfl) (hmem _ h1) rfl) (dget_G (f := fun x => natD (r.idxOf x)) rfl (g2 _ rfl) (hmem _ h2) rfl)
def hasB (T : Tb) (ps : List (Nat × Nat)) (l : List Nat) (x : Nat) : Bool := l.any fun y => T y x || decide ((y, x) ∈ ps)
theorem has_eq2 {ps : List (Nat × Nat)} {l : List Nat} {x : Nat} (hl : l.length ≤ 1000) (hlt : ∀ y ∈ l, y < n) (hx : x < n) : F_has_before [ordT n T, prsD false ps, .n .lst false (l.map natD), natD x] = .rt (.a (.bl (hasB T ps l x))) none := by
  have hfl : isF (.n .lst false (l.map natD)) = true := by rw [isF_n, isFL_nat]; rfl
  apply wf_eq
  unfold F_has_before
  rw [wf_fn]
  unfold B_has_before
  show WP _ (dSeq _ _ [some (ordT n T), some (prsD false ps), some (.n .lst false (l.map natD)), some (natD x), none])
  refine wp_cutK (fun ρ => hasB T ps l x = false) (fun K hK => ?_) ?_
  · rw [wx]
    refine forRetV (ds := l.map natD) (fun i => T (itL l i) x || decide ((itL l i, x) ∈ ps)) (by simp) (src_lst (.inl rfl) (var_eq rfl hfl) (by omega)) ?_ (fun i ρ' hi h => ⟨?_, rfl⟩) fun h o => hK _ ?_
    · intro i d hd _
      obtain ⟨y, hy, rfl⟩ := natD_get hd
      have hi := (List.getElem?_eq_some_iff.mp hy).1
      have e : y = itL l i := by
        have := itL_get hi
        rw [hy] at this
        exact Option.some.inj this
      subst e
      have hyn := hlt _ (itL_mem hi)
      exact orE (bE (lessG rfl (var_eq rfl rfl) (var_eq rfl rfl) hyn hx)) fun _ => bE (op2E (a := prD (itL l i, x)) (b := prsD false ps) (tup2 (var_eq rfl rfl) (var_eq rfl rfl) rfl rfl) (var_eq rfl isF_prs) fun P => o_inP (.inl rfl))
    · symm
      unfold hasB
      rw [List.length_map] at hi
      have : l.any (fun y => T y x || decide ((y, x) ∈ ps)) = true := List.any_eq_true.mpr ⟨itL l i, itL_mem hi, h⟩
      rw [this]
    · unfold hasB
      rw [List.any_eq_false]
      intro y hy
      obtain ⟨i, hi, rfl⟩ := itL_ex hy
      have := h i (by rw [List.length_map]; exact hi)
      rw [this]
      decide
  intro ρ h
  rw [p_Bind]
  refine wo_of (cE (x := .bl false)) ⟨?_, rfl⟩
  rw [h]
end
end DC
set_option pp.maxSteps 1500
namespace DC
open PySem L2 DL
theorem lenP {ρ : DL.Env} {f : DL.Env → Out D} {o : Bool} {ps : List (Nat × Nat)} (hf : f ρ = .ok (prsD o ps) ρ) : dU gLen f ρ = .ok (natD ps.length) ρ := uE hf fun P => by
  show P (.a (.int (ps.map prD).length)) = _
  rw [List.length_map]
  rfl
section
variable {n : Nat} {T : Tb} (hn : n ≤ 60)
include hn
omit hn in
theorem dat_isI {k : Nat} {d : D} (h : Dat k d) : ∃ c : Bool, F_is_integer [d] = .rt (.a (.bl c)) none ∧ (c = true → ∃ z : Int, d = .a (.int z)) := by
  rcases dat_int h with ⟨z, rfl⟩ | hn
  · exact ⟨true, isint_eq z, fun _ => ⟨z, rfl⟩⟩
  · exact ⟨false, hn, fun e => by cases e⟩
omit hn in
theorem eqDL_nats2 : ∀ {r : List Nat} {xs : List D}, (∀ x ∈ xs, ∃ z : Int, x = .a (.int z)) → eqDL (r.map natD) xs = true → xs = r.map natD
  | [], [], _, _ => rfl
  | [], x :: xs, _, h => by simp [eqDL] at h
  | a :: r, [], _, h => by simp [eqDL] at h
  | a :: r, x :: xs, hx, h => by
    obtain ⟨z, rfl⟩ := hx x (by simp)
    rw [List.map_cons, eqDL, Bool.and_eq_true] at h
    have h1 : z = (a : Int) := by
      have := h.1
      simp [natD, eqD, eqA] at this
      omega
    rw [h1, eqDL_nats2 (fun y hy => hx y (by simp [hy])) h.2]
    rfl
omit hn in
theorem anyEq_ex {x : D} : ∀ {ys : List D}, anyEq x ys = true → ∃ y ∈ ys, eqD y x = true
  | [], h => by simp [anyEq] at h
  | y :: ys, h => by
    rw [anyEq, Bool.or_eq_true] at h
    rcases h with h | h
    · exact ⟨y, by simp, h⟩
    · obtain ⟨z, hz, e⟩ := anyEq_ex h
      exact ⟨z, by simp [hz], e⟩
end
end DC
set_option pp.maxSteps 1500
namespace DC
open PySem L2 DL
def twB (n : Nat) (T : Tb) (y x : Nat) : Bool := (List.range n).all fun z => decide (T z y = T z x) && decide (T y z = T x z)
def rI (T : Tb) (h : List Nat) (x : Nat) : Nat := mask h.length fun j => T (itL h j) x
theorem itL_take {h : List Nat} {k j : Nat} (hj : j < k) : itL (h.take k) j = itL h j := by
  unfold itL
  rw [List.getD_eq_getElem?_getD, List.getD_eq_getElem?_getD, List.getElem?_take_of_lt hj]
structure LinX (n : Nat) (T : Tb) (h : List Nat) : Prop where
  pm : Pm n h
  cl : ∀ k, k < n → ∀ y, y < n → T y (itL h k) = true → y ∈ h.take k
structure Iso (n : Nat) (T S : Tb) (p q : Nat → Nat) : Prop where
  pl : ∀ a, a < n → p a < n
  ql : ∀ a, a < n → q a < n
  qp : ∀ a, a < n → q (p a) = a
  pq : ∀ a, a < n → p (q a) = a
  ev : ∀ a b, a < n → b < n → T a b = S (p a) (p b)
theorem Iso.symm {n : Nat} {T S : Tb} {p q : Nat → Nat} (I : Iso n T S p q) : Iso n S T q p := ⟨I.ql, I.pl, I.pq, I.qp, fun a b ha hb => by rw [I.ev _ _ (I.ql a ha) (I.ql b hb), I.pq a ha, I.pq b hb]⟩
def sw (x y : Nat) : Nat → Nat := fun a => if a = x then y else if a = y then x else a
structure Hd (n : Nat) (T : Tb) (k : Nat) (h : List Nat) : Prop where
  len : h.length = k
  nd : h.Nodup
  lt : ∀ x ∈ h, x < n
  cl : ∀ j, j < k → ∀ y, y < n → T y (itL h j) = true → y ∈ h.take j
theorem argmin {μ : Nat → Nat} : ∀ {l : List Nat}, l ≠ [] → ∃ x ∈ l, ∀ y ∈ l, μ x ≤ μ y
  | [], h => absurd rfl h
  | [a], _ => ⟨a, by simp, fun y hy => by
    have : y = a := by simpa using hy
    rw [this]; exact Nat.le_refl _⟩
  | a :: b :: l, _ => by
    obtain ⟨x, hx, h⟩ := argmin (μ := μ) (l := b :: l) (by simp)
    by_cases q : μ a ≤ μ x
    · exact ⟨a, by simp, fun y hy => by
        rcases List.mem_cons.mp hy with rfl | hy
        · exact Nat.le_refl _
        · exact Nat.le_trans q (h y hy)⟩
    · exact ⟨x, by simp at hx ⊢; exact .inr hx, fun y hy => by
        rcases List.mem_cons.mp hy with rfl | hy
        · omega
        · exact h y hy⟩
end DC
set_option pp.maxSteps 1500
namespace DC
open PySem L2 DL
def kp (n : Nat) (T : Tb) (x : Nat) : Nat × Nat := (mask n (fun z => T z x), mask n (T x))
def cls (n : Nat) (T : Tb) (m r : Nat) : List Nat := (List.range m).filter fun y => twB n T y r
section
variable {n : Nat} {T : Tb} (hn : n ≤ 60)
include hn
end
end DC
set_option pp.maxSteps 1500
namespace DC
open PySem L2 DL
section
variable {n : Nat} {T : Tb} (hn : n ≤ 60)
include hn
end
end DC
set_option pp.maxSteps 1500
namespace DC
open PySem L2 DL
section
variable {n : Nat} {T : Tb} (hn : n ≤ 60) (tT : Tr n T) (iT : Irr n T)
include hn tT iT
end
end DC
set_option pp.maxSteps 1500
namespace DC
open PySem L2 DL
def dfa (n : Nat) : Nat → Nat
  | 0 => 1
  | k + 1 => dfa n k * (n - k)
theorem flt_add {p : Nat → Bool} : ∀ {l : List Nat}, (l.filter p).length + (l.filter fun x => !p x).length = l.length
  | [] => rfl
  | a :: l => by
    have := flt_add (p := p) (l := l)
    cases q : p a with
    | true => simp [q]; omega
    | false => simp [q]; omega
theorem out_len {n : Nat} {h : List Nat} (nd : h.Nodup) (hlt : ∀ x ∈ h, x < n) : ((List.range n).filter fun x => !decide (x ∈ h)).length = n - h.length := by
  have h1 := flt_add (l := List.range n) (p := fun x => decide (x ∈ h))
  have h2 : ((List.range n).filter fun x => decide (x ∈ h)).Perm h := (List.perm_ext_iff_of_nodup (List.nodup_range.filter _) nd).mpr fun z => by
    rw [List.mem_filter, List.mem_range, decide_eq_true_eq]
    exact ⟨fun q => q.2, fun q => ⟨hlt z q, q⟩⟩
  have h3 := h2.length_eq
  rw [List.length_range] at h1
  omega
section
variable {n : Nat} {T : Tb} (hn : n ≤ 4) (tT : Tr n T) (iT : Irr n T)
include hn tT iT
end
end DC
set_option pp.maxSteps 1500
namespace DC
open PySem L2 DL
structure PM (n k : Nat) (T S : Tb) (f : List Nat) : Prop where
  len : f.length = k
  lt : ∀ y ∈ f, y < n
  nd : f.Nodup
  ev : ∀ x z, x < k → z < k → T x z = S (itL f x) (itL f z)
theorem itL_ap2 {f g : List Nat} {x : Nat} (hx : x < f.length) : itL (f ++ g) x = itL f x := by
  unfold itL
  rw [List.getD_eq_getElem?_getD, List.getD_eq_getElem?_getD, List.getElem?_append_left hx]
end DC
set_option pp.maxSteps 1500
namespace DC
open PySem L2 DL
end DC
set_option pp.maxSteps 1500
namespace DC
open PySem L2 DL
end DC
set_option pp.maxSteps 1500
namespace DC
open PySem L2 DL
def extG (m : Nat) (c : List Nat → Nat → Bool) (r : List Nat) : List (List Nat) := ((List.range m).filter (c r)).map fun y => r ++ [y]
def arrK (n : Nat) : Nat → List (List Nat)
  | 0 => [[]]
  | k + 1 => (arrK n k).flatMap (extG n fun r y => !decide (y ∈ r))
end DC
set_option pp.maxSteps 1500
namespace DC
open PySem L2 DL
section
variable {n m : Nat} {T S : Tb}
end
end DC
set_option pp.maxSteps 1500
namespace DC
open PySem L2 DL
end DC
set_option pp.maxSteps 1500
namespace DC
open PySem L2 DL
theorem dat_lst {k : Nat} {kd : Kd} {xs : List D} (hk : kd = .tup ∨ kd = .lst) (hl : xs.length ≤ 60) (h : ∀ x ∈ xs, Dat k x) : Dat (k + 1) (.n kd false xs) := ⟨hk, rfl, hl, h⟩
theorem dat_w {k : Nat} {w : Str} (h : strG w = true) : Dat k (.a (.str w)) := by cases k <;> exact h
end DC
set_option pp.maxSteps 1500
namespace DC
open PySem L2 DL
section
variable {n m : Nat} {T S : Tb}
end
theorem dat_nat {k v : Nat} : Dat k (natD v) := by cases k <;> trivial
theorem dat_tupN {k : Nat} {f : List Nat} (h : f.length ≤ 60) : Dat (k + 1) (tupN f) := dat_lst (.inl rfl) (by rw [List.length_map]; exact h) fun x hx => by
  obtain ⟨v, _, rfl⟩ := List.mem_map.mp hx
  exact dat_nat
theorem dat_par {k : Nat} {lv : List (List Nat)} (h : lv.length ≤ 60) (hf : ∀ f ∈ lv, f.length ≤ 60) : Dat (k + 2) (parD lv) := dat_lst (.inl rfl) (by rw [List.length_map]; exact h) fun x hx => by
  obtain ⟨f, hfm, rfl⟩ := List.mem_map.mp hx
  exact dat_tupN (hf f hfm)
end DC
set_option pp.maxSteps 1500
namespace DC
open PySem L2 DL
theorem dat_one {k : Nat} {y : D} (h : Dat k y) : ∀ x ∈ [y], Dat k x := fun x hx => by
  have : x = y := by simpa using hx
  rw [this]; exact h
end DC
set_option pp.maxSteps 1500
namespace DC
open PySem L2 DL
end DC
set_option pp.maxSteps 1500
namespace DC
open PySem L2 DL
section
variable {n : Nat} {S : Tb}
end
end DC
set_option pp.maxSteps 1500
namespace DC
open PySem L2 DL
theorem take_snoc {h : List Nat} {k : Nat} (hk : k < h.length) : h.take (k + 1) = h.take k ++ [itL h k] := by
  rw [List.take_succ, itL_get hk]
  rfl
theorem nodup_fm {α : Type} {β : Type} {g : α → List β} : ∀ {L : List α}, L.Nodup → (∀ r ∈ L, (g r).Nodup) → (∀ r ∈ L, ∀ s ∈ L, ∀ z, z ∈ g r → z ∈ g s → r = s) → (L.flatMap g).Nodup
  | [], _, _, _ => by simp
  | r :: L, h1, h2, h3 => by
    obtain ⟨hr, hL⟩ := List.nodup_cons.mp h1
    rw [List.flatMap_cons]
    refine List.nodup_append.mpr ⟨h2 r (by simp), nodup_fm hL (fun s hs => h2 s (by simp [hs])) fun s hs t ht => h3 s (by simp [hs]) t (by simp [ht]), fun a ha b hb e => ?_⟩
    subst e
    obtain ⟨s, hs, hz⟩ := List.mem_flatMap.mp hb
    have := h3 r (by simp) s (by simp [hs]) a ha hz
    subst this
    exact hr hs
theorem nodup_mp {α : Type} {β : Type} {g : α → β} (hg : ∀ a b, g a = g b → a = b) : ∀ {L : List α}, L.Nodup → (L.map g).Nodup
  | [], _ => by simp
  | a :: L, h => by
    obtain ⟨h1, h2⟩ := List.nodup_cons.mp h
    rw [List.map_cons]
    refine List.nodup_cons.mpr ⟨fun hm => ?_, nodup_mp hg h2⟩
    obtain ⟨b, hb, e⟩ := List.mem_map.mp hm
    rw [← hg b a e] at h1
    exact h1 hb
theorem snoc_inj {h g : List Nat} {x y : Nat} (e : h ++ [x] = g ++ [y]) : h = g ∧ x = y := by
  have := List.append_inj' e rfl
  exact ⟨this.1, by simpa using this.2⟩
end DC
set_option pp.maxSteps 1500
namespace DC
open PySem L2 DL
section
variable {n : Nat} {T : Tb} (hn : n ≤ 5) (tT : Tr n T) (iT : Irr n T)
include hn tT iT
end
end DC
set_option pp.maxSteps 1500
namespace DC
open PySem L2 DL
theorem nodup_mpL {α : Type} {β : Type} {g : α → β} : ∀ {L : List α}, (∀ a ∈ L, ∀ b ∈ L, g a = g b → a = b) → L.Nodup → (L.map g).Nodup
  | [], _, _ => by simp
  | a :: L, hg, h => by
    obtain ⟨h1, h2⟩ := List.nodup_cons.mp h
    rw [List.map_cons]
    refine List.nodup_cons.mpr ⟨fun hm => ?_, nodup_mpL (fun x hx y hy => hg x (by simp [hx]) y (by simp [hy])) h2⟩
    obtain ⟨b, hb, e⟩ := List.mem_map.mp hm
    rw [← hg b (by simp [hb]) a (by simp) e] at h1
    exact h1 hb
theorem pm_at {n a : Nat} {h : List Nat} (P : Pm n h) (ha : a < n) : itL h (h.idxOf a) = a := by
  have := P.at_ ha
  have h2 := itL_get (vs := h) (i := h.idxOf a) (by rw [P.len]; exact P.idx ha)
  rw [this] at h2
  exact (Option.some.inj h2).symm
end DC
set_option pp.maxSteps 1500
namespace DC
open PySem L2 DL
end DC
set_option pp.maxSteps 1500
namespace DC
open PySem L2 DL
end DC
set_option pp.maxSteps 1500
namespace DX
open PySem L2 DL DC
theorem fm_lenB {g : List Nat → List (List Nat)} {m : Nat} : ∀ {hs : List (List Nat)}, (∀ r ∈ hs, (g r).length ≤ m) → (hs.flatMap g).length ≤ hs.length * m
  | [], _ => by simp
  | r :: hs, h => by
    have h1 := h r (by simp)
    have h2 := fm_lenB (g := g) (m := m) (hs := hs) fun s hs => h s (by simp [hs])
    rw [List.flatMap_cons, List.length_append, List.length_cons, Nat.succ_mul]
    omega
theorem rwL_dfa {n : Nat} {T : Tb} (iT : Irr n T) : ∀ t, t ≤ n → (rwL n T t).length ≤ dfa n t
  | 0, _ => by simp [rwL, dfa]
  | t + 1, ht => by
    show ((rwL n T t).flatMap fun r => (fl n T (setm r)).map fun x => r ++ [x]).length ≤ dfa n t * (n - t)
    have h1 := rwL_dfa iT t (by omega)
    refine Nat.le_trans (fm_lenB (m := n - t) fun r hr => ?_) (Nat.mul_le_mul_right _ h1)
    obtain ⟨g1, g2, g3⟩ := rwL_ok iT hr
    rw [List.length_map, ← g1, ← out_len g2 g3]
    unfold fl
    have : ∀ (l : List Nat) (p q : Nat → Bool), (∀ x, p x = true → q x = true) → (l.filter p).length ≤ (l.filter q).length := fun l p q hpq => by
      induction l with
      | nil => simp
      | cons a l ih =>
        cases e : p a with
        | true => simp [e, hpq a e, ih]
        | false =>
          cases e2 : q a with
          | true => simp [e, e2]; omega
          | false => simp [e, e2, ih]
    refine this _ _ _ fun x hx => ?_
    rw [Bool.and_eq_true] at hx
    have := hx.1
    rw [setm_bit] at this
    exact this
theorem dfa6 {n k : Nat} (hn : n ≤ 6) (hk : k ≤ n) : dfa n k ≤ 720 := by
  have key : ∀ n, n < 7 → ∀ k, k < n + 1 → dfa n k ≤ 720 := by decide +kernel
  exact key n (by omega) k (by omega)
end DX
set_option pp.maxSteps 1500
namespace DX
open PySem L2 DL DC
structure LinE (n : Nat) (T : Tb) (r : List Nat) : Prop where
  pm : Pm n r
  up : ∀ x y, x < n → y < n → T x y = true → bef r x y = true
theorem linE_W {n : Nat} {T : Tb} {r : List Nat} (iT : Irr n T) : r ∈ Wys n T ↔ LinE n T r := by
  constructor
  · intro h
    obtain ⟨P, f⟩ := cmp_pm iT h
    exact ⟨P, (fit_idx iT P).mp f⟩
  · rintro ⟨P, u⟩
    show r ∈ cmp n T n 0
    rw [← rwP_fit iT]
    refine List.mem_filter.mpr ⟨?_, (fit_idx iT P).mpr u⟩
    have key : ∀ (k : Nat) (r : List Nat), r.length = k → r.Nodup → (∀ y ∈ r, y < n) → r ∈ rwP n k := fun k => by
      induction k with
      | zero =>
        intro r h _ _
        have : r = [] := List.eq_nil_of_length_eq_zero h
        subst this
        simp [rwP]
      | succ k ih =>
        intro r h nd hlt
        have e := take_snoc (h := r) (k := k) (by omega)
        rw [List.take_of_length_le (by omega)] at e
        have hx : DC.itL r k < n := hlt _ (itL_mem (by omega))
        rw [e]
        rw [e] at nd
        refine List.mem_flatMap.mpr ⟨r.take k, ih _ (by rw [List.length_take]; omega) (List.nodup_append.mp nd).1 (fun y hy => hlt y (List.mem_of_mem_take hy)), List.mem_map.mpr ⟨DC.itL r k, List.mem_filter.mpr ⟨List.mem_range.mpr hx, ?_⟩, rfl⟩⟩
        exact decide_eq_true fun hm => (List.nodup_append.mp nd).2.2 _ hm _ (by simp) rfl
    exact key n r P.len P.nd P.lt
theorem linK_W {n : Nat} {T : Tb} : linK n T n = Wys n T := by
  have key : ∀ k, linK n T k = rwL n T k := fun k => by
    induction k with
    | zero => rfl
    | succ k ih =>
      show (linK n T k).flatMap (fun r => extR n T r n) = (rwL n T k).flatMap fun r => (fl n T (setm r)).map fun x => r ++ [x]
      rw [ih]
      congr 1
      funext r
      unfold extR fl
      congr 1
      apply List.filter_congr
      intro x _
      rw [setm_bit]
      congr 1
      unfold freeB
      congr 1
      funext y
      rw [setm_bit]
      cases T y x <;> simp
  rw [key n, rwL_all]
def CC (n : Nat) (T : Tb) (ps : Prs) (c : Nat) : Prop := ∃ cs : List (List Nat), cs.length = c ∧ (∀ r ∈ cs, LinE n T r) ∧ Cov2 ps cs
def PsT (n : Nat) (ps : Prs) : Prop := ∀ p ∈ ps, p.1 < n ∧ p.2 < n ∧ p.1 ≠ p.2
theorem PsT.tells {n : Nat} {T : Tb} {ps : Prs} (h : PsT n ps) {r : List Nat} (L : LinE n T r) {p : Nat × Nat} (hp : p ∈ ps) : bef r p.1 p.2 = true ∨ bef r p.2 p.1 = true := by
  obtain ⟨h1, h2, h3⟩ := h p hp
  exact bef_or L.pm h1 h2 h3
theorem lefP_PsT {n : Nat} {ps : Prs} {r : List Nat} (h : PsT n ps) : PsT n (lefP ps r) := fun p hp => h p (List.mem_filter.mp hp).1
theorem lef_cov {n : Nat} {T : Tb} {ps : Prs} {r : List Nat} {cs : List (List Nat)} (h : PsT n ps) (L : LinE n T r) : Cov2 (lefP ps r) cs ↔ Cov2 ps (r :: cs) := by
  have ht : Tells [r] ps := fun s hs p hp => by
    have : s = r := by simpa using hs
    subst this
    exact h.tells L hp
  exact cov_cons (R := [r]) ht (by simp)
def Peel (n : Nat) (T : Tb) (ps : Prs) (l : List Nat) : Prop := l.Nodup ∧ ∃ q : List Nat, q.Nodup ∧ (∀ x, x ∈ q ↔ x < n ∧ x ∉ l) ∧ ∀ j, j < q.length → ∀ y, y < n → (T y (DC.itL q j) = true ∨ (y, DC.itL q j) ∈ ps) → y ∈ q.take j
theorem hasB_iff {T : Tb} {ps : Prs} {l : List Nat} {x : Nat} : hasB T ps l x = true ↔ ∃ y ∈ l, T y x = true ∨ (y, x) ∈ ps := by
  unfold hasB
  rw [List.any_eq_true]
  constructor
  · rintro ⟨y, hy, h⟩
    rw [Bool.or_eq_true, decide_eq_true_eq] at h
    exact ⟨y, hy, h⟩
  · rintro ⟨y, hy, h⟩
    refine ⟨y, hy, ?_⟩
    rw [Bool.or_eq_true, decide_eq_true_eq]
    exact h
theorem peel_no {n : Nat} {T : Tb} {ps : Prs} {l : List Nat} (h0 : l ≠ []) (hlt : ∀ y ∈ l, y < n) (h : ∀ x ∈ l, hasB T ps l x = true) : ¬ CC n T ps 1 := by
  rintro ⟨cs, g1, g2, g3⟩
  obtain ⟨r, rfl⟩ := List.length_eq_one_iff.mp g1
  have L := g2 r (by simp)
  obtain ⟨x, hx, hmin⟩ := argmin (μ := fun x => r.idxOf x) h0
  obtain ⟨y, hy, hyx⟩ := hasB_iff.mp (h x hx)
  have hb : bef r y x = true := by
    rcases hyx with q | q
    · exact L.up y x (hlt y hy) (hlt x hx) q
    · obtain ⟨s, hs, e⟩ := g3 (y, x) q
      have : s = r := by simpa using hs
      subst this
      exact e
  unfold bef at hb
  rw [decide_eq_true_eq] at hb
  have := hmin y hy
  omega
theorem Peel.step {n : Nat} {T : Tb} {ps : Prs} {l fr : List Nat} (h : Peel n T ps l) (hlt : ∀ y ∈ l, y < n) (hfr : fr = l.filter fun x => !hasB T ps l x) : Peel n T ps (l.filter fun x => !decide (x ∈ fr)) := by
  obtain ⟨nd, q, hq, hm, hp⟩ := h
  have hfl : ∀ x, x ∈ fr ↔ x ∈ l ∧ hasB T ps l x = false := fun x => by
    rw [hfr, List.mem_filter, Bool.not_eq_true']
  refine ⟨nd.filter _, q ++ fr, List.nodup_append.mpr ⟨hq, by rw [hfr]; exact nd.filter _, fun a ha b hb e => ?_⟩, fun x => ?_, fun j hj y hy hpre => ?_⟩
  · subst e
    exact ((hm a).mp ha).2 ((hfl a).mp hb).1
  · rw [List.mem_append, List.mem_filter, Bool.not_eq_true', decide_eq_false_iff_not]
    constructor
    · rintro (q1 | q1)
      · obtain ⟨h1, h2⟩ := (hm x).mp q1
        exact ⟨h1, fun h3 => h2 h3.1⟩
      · exact ⟨hlt x ((hfl x).mp q1).1, fun h3 => h3.2 q1⟩
    · rintro ⟨h1, h2⟩
      by_cases hxl : x ∈ l
      · right
        exact Classical.byContradiction fun hc => h2 ⟨hxl, hc⟩
      · exact .inl ((hm x).mpr ⟨h1, hxl⟩)
  · by_cases e : j < q.length
    · rw [itL_ap2 e] at hpre
      rw [List.take_append_of_le_length (by omega)]
      exact hp j e y hy hpre
    · have hx : DC.itL (q ++ fr) j ∈ fr := by
        have h1 := itL_get (vs := q ++ fr) (i := j) hj
        rw [List.getElem?_append_right (by omega)] at h1
        exact List.mem_of_getElem? h1
      have hyl : y ∉ l := fun hyl => by
        have := ((hfl _).mp hx).2
        have h2 : hasB T ps l (DC.itL (q ++ fr) j) = true := hasB_iff.mpr ⟨y, hyl, hpre⟩
        rw [h2] at this
        cases this
      have hyq := (hm y).mpr ⟨hy, hyl⟩
      rw [List.take_append]
      rw [List.take_of_length_le (show q.length ≤ j by omega)]
      exact List.mem_append_left _ hyq
theorem idx_take {q : List Nat} {k y : Nat} (nd : q.Nodup) (h : y ∈ q.take k) : q.idxOf y < k := by
  obtain ⟨j, hj, e⟩ := itL_ex h
  rw [List.length_take] at hj
  rw [itL_take (by omega)] at e
  have hl : j < q.length := by omega
  have h1 := itL_get (vs := q) (i := j) hl
  rw [List.getElem?_eq_getElem hl] at h1
  have h2 := idxOf_get nd j hl
  rw [Option.some.inj h1, e] at h2
  omega
theorem Peel.done {n : Nat} {T : Tb} {ps : Prs} {l : List Nat} (hps : PsT n ps) (h : Peel n T ps l) (h0 : l = []) : CC n T ps 1 := by
  subst h0
  obtain ⟨_, q, hq, hm, hp⟩ := h
  have hlen : q.length = n := by
    have : q.Perm (List.range n) := (List.perm_ext_iff_of_nodup hq List.nodup_range).mpr fun x => by
      rw [hm, List.mem_range]
      simp
    simpa using this.length_eq
  have P : Pm n q := ⟨hlen, hq, fun y hy => ((hm y).mp hy).1⟩
  have hb : ∀ x y, x < n → y < n → (T x y = true ∨ (x, y) ∈ ps) → bef q x y = true := fun x y hx hy h => by
    have hi := P.idx hy
    have e : DC.itL q (q.idxOf y) = y := pm_at P hy
    have := idx_take hq (hp (q.idxOf y) (by omega) x hx (by rw [e]; exact h))
    unfold bef
    exact decide_eq_true this
  refine ⟨[q], rfl, fun r hr => ?_, fun p hpp => ⟨q, by simp, hb p.1 p.2 (hps p hpp).1 (hps p hpp).2.1 (.inr hpp)⟩⟩
  have : r = q := by simpa using hr
  subst this
  exact ⟨P, fun x y hx hy h => hb x y hx hy (.inl h)⟩
section
variable {n : Nat} {T : Tb} (hn : n ≤ 60)
include hn
theorem circ_is {ps : List (Nat × Nat)} (hps : PsT n ps) : ∃ b : Bool, F_is_without_circle [ordT n T, prsD false ps] = .rt (.a (.bl b)) none ∧ (b = true ↔ CC n T ps 1) := by
  have key : WF NoE (fun d io => (∃ b : Bool, d = .a (.bl b) ∧ (b = true ↔ CC n T ps 1)) ∧ io = none) (F_is_without_circle [ordT n T, prsD false ps]) := by
    unfold F_is_without_circle
    rw [wf_fn]
    unfold B_is_without_circle
    show WP _ (dSeq _ _ [some (ordT n T), some (prsD false ps), none, none, none])
    refine wp_cutK (fun ρ => ∃ l : List Nat, ρ = [some (ordT n T), some (prsD false ps), some (.n .lst false (l.map natD)), none, none] ∧ l.length ≤ n ∧ (∀ y ∈ l, y < n) ∧ Peel n T ps l) (fun K hK => ?_) ?_
    · rw [wx, p_Bind]
      have h1 := w_fz (lcE (ρ := [some (ordT n T), some (prsD false ps), none, none, none]) (v := 4) (l := List.range n) (src := dRng1 (dU (gFld "n") (dVar 0))) (t := dYes) (fun _ => true) (fun d h => by cases h) (by simp) (src_rngN (n := n) (fldE rfl) (by omega)) (by simp; omega) fun x hx => rfl)
      rw [frz_n, frzL_nat] at h1
      refine wo_of h1 ?_
      rw [p_Set]
      exact ⟨by simp, hK _ ⟨(List.range n).filter fun _ => true, rfl, Nat.le_trans (List.length_filter_le _ _) (by rw [List.length_range]; exact Nat.le_refl n), fun y hy => List.mem_range.mp (List.mem_filter.mp hy).1, ⟨List.nodup_range.filter _, [], List.nodup_nil, fun x => by simp, fun j hj => absurd hj (by simp)⟩⟩⟩
    rintro _ ⟨l, rfl, hl, hlt, hpe⟩
    refine wp_cutK (fun ρ => CC n T ps 1) (fun K hK => ?_) ?_
    · rw [wx]
      refine wp_while (fun k ρ => ∃ (l : List Nat) (o3 : Option D), ρ = [some (ordT n T), some (prsD false ps), some (.n .lst false (l.map natD)), o3, none] ∧ l.length = k ∧ k ≤ n ∧ (∀ y ∈ l, y < n) ∧ Peel n T ps l) ?_ 100000 l.length _ (by omega) ⟨l, none, rfl, rfl, hl, hlt, hpe⟩
      rintro k _ ⟨l, o3, rfl, hlk, hk, hlt, hpe⟩
      have hfl : isF (.n .lst false (l.map natD)) = true := by rw [isF_n, isFL_nat]; rfl
      refine wo_ofB (gtE (b := 0) (lenL (var_eq rfl hfl)) (cE (x := .int 0))) ?_
      by_cases h0 : 0 < l.length
      · rw [if_pos (decide_eq_true h0)]
        have hfr : ∀ ρ : DL.Env, ρ[0]? = some (some (ordT n T)) → ρ[1]? = some (some (prsD false ps)) → ρ[2]? = some (some (.n .lst false (l.map natD))) → ρ[4]? = some none → dFz (dLc [4] (dIter (dVar 2)) (tg1 4) (dNotT (dB (dCall 4 F_has_before (dACons (dVar 0) (dACons (dVar 1) (dACons (dVar 2) (dACons (dVar 4) dANil))))))) (dVar 4)) ρ = .ok (.n .lst false ((l.filter fun x => !hasB T ps l x).map natD)) ρ := fun ρ h0 h1 h2 h4 => by
          have hl4 := (List.getElem?_eq_some_iff.mp h4).1
          have h := w_fz (lcE (ρ := ρ) (v := 4) (l := l) (fun x => !hasB T ps l x) (fun d h => by rw [h4] at h; cases h) hl4 (src_lst (.inl rfl) (var_eq h2 hfl) (by omega)) (by omega) fun x hx => notE (bE (call4 (var_eq (by rw [List.getElem?_set_ne (show (4 : Nat) ≠ 0 by decide)]; exact h0) isF_ordT) (var_eq (by rw [List.getElem?_set_ne (show (4 : Nat) ≠ 1 by decide)]; exact h1) isF_prs) (var_eq (by rw [List.getElem?_set_ne (show (4 : Nat) ≠ 2 by decide)]; exact h2) hfl) (var_eq (get_set_self hl4) rfl) isF_ordT isF_prs hfl rfl (has_eq2 hn (by omega) hlt (hlt x hx)))))
          rw [frz_n, frzL_nat] at h
          exact h
        have hfm : ∀ x ∈ l.filter (fun x => !hasB T ps l x), x ∈ l := fun x hx => (List.mem_filter.mp hx).1
        have hfll := List.length_filter_le (fun x => !hasB T ps l x) l
        obtain ⟨fr, hfrd⟩ : ∃ fr, fr = l.filter fun x => !hasB T ps l x := ⟨_, rfl⟩
        rw [← hfrd] at hfr hfm hfll
        have hff : isF (.n .lst false (fr.map natD)) = true := by rw [isF_n, isFL_nat]; rfl
        refine wp_cutK (fun ρ => ρ = [some (ordT n T), some (prsD false ps), some (.n .lst false (l.map natD)), some (.n .lst false (fr.map natD)), none]) (fun K2 hK2 => ?_) ?_
        · rw [wx, p_Bind]
          refine wo_of (hfr _ rfl rfl rfl rfl) ?_
          rw [p_Set]
          exact ⟨by simp, hK2 _ rfl⟩
        rintro _ rfl
        refine wp_step fun K2 hK2 => ?_
        rw [wx]
        by_cases hf0 : fr.length = 0
        · exact if_ret ((eqN (b := 0) (lenL (var_eq rfl hff)) (cE (x := .int 0))).trans (by rw [decide_eq_true hf0])) ⟨⟨false, rfl, ⟨fun e => (by cases e), fun hc => (peel_no (List.ne_nil_of_length_pos h0) hlt (fun x hx => by
            cases q : hasB T ps l x with
            | true => rfl
            | false =>
              have : x ∈ fr := by rw [hfrd]; exact List.mem_filter.mpr ⟨hx, by rw [q]; rfl⟩
              rw [List.eq_nil_of_length_eq_zero hf0] at this
              cases this) hc).elim⟩⟩, rfl⟩
        · refine if_no ((eqN (b := 0) (lenL (var_eq rfl hff)) (cE (x := .int 0))).trans (by rw [decide_eq_false hf0])) ?_
          rw [p_Next]
          apply hK2
          clear hK2 K2
          have hle : ∀ ρ : DL.Env, ρ[2]? = some (some (.n .lst false (l.map natD))) → ρ[3]? = some (some (.n .lst false (fr.map natD))) → ρ[4]? = some none → dFz (dLc [4] (dIter (dVar 2)) (tg1 4) (dB (dOp2 gNotIn (dVar 4) (dVar 3))) (dVar 4)) ρ = .ok (.n .lst false ((l.filter fun x => !decide (x ∈ fr)).map natD)) ρ := fun ρ h2 h3 h4 => by
            have hl4 := (List.getElem?_eq_some_iff.mp h4).1
            have h := w_fz (lcE (ρ := ρ) (v := 4) (l := l) (fun x => !decide (x ∈ fr)) (fun d h => by rw [h4] at h; cases h) hl4 (src_lst (.inl rfl) (var_eq h2 hfl) (by omega)) (by omega) fun x hx => bE (op2E (a := natD x) (b := .n .lst false (fr.map natD)) (var_eq (get_set_self hl4) rfl) (var_eq (by rw [List.getElem?_set_ne (show (4 : Nat) ≠ 3 by decide)]; exact h3) hff) fun P => o_notinN (.inl rfl)))
            rw [frz_n, frzL_nat] at h
            exact h
          rw [p_Bind]
          refine wo_of (hle _ rfl rfl rfl) ?_
          rw [p_Set]
          have hlt2 : (l.filter fun x => !decide (x ∈ fr)).length < l.length := by
            obtain ⟨x, hx⟩ : ∃ x, x ∈ fr := by
              cases fr with
              | nil => exact absurd rfl hf0
              | cons x fr => exact ⟨x, by simp⟩
            have hle := List.length_filter_le (fun x => !decide (x ∈ fr)) l
            rcases Nat.lt_or_ge (l.filter fun x => !decide (x ∈ fr)).length l.length with q | q
            · exact q
            · have e := List.length_filter_eq_length_iff.mp (Nat.le_antisymm hle q) x (hfm x hx)
              simp [hx] at e
          exact ⟨by simp, (l.filter fun x => !decide (x ∈ fr)).length, by omega, _, _, rfl, rfl, by omega, fun y hy => hlt y (List.mem_filter.mp hy).1, hpe.step hlt hfrd⟩
      · rw [if_neg (by rw [decide_eq_false h0]; decide)]
        exact hK _ (hpe.done hps (List.eq_nil_of_length_eq_zero (by omega)))
    intro ρ hcc
    rw [p_Bind]
    exact wo_of (cE (x := .bl true)) ⟨⟨true, rfl, fun _ => hcc, fun _ => rfl⟩, rfl⟩
  obtain ⟨d, io, h, ⟨b, rfl, hb⟩, rfl⟩ := DC.wf_ex key
  exact ⟨b, h, hb⟩
theorem close_is {L : List (List Nat)} (hL : ∀ r, r ∈ L ↔ LinE n T r) (hll : L.length ≤ 1000) : ∀ (m c : Nat) (ps : List (Nat × Nat)), c < m → PsT n ps → ps.length ≤ 10000 → ∃ b : Bool, R_can_close m [ordT n T, prsD false ps, rwsD false L, natD c] = .rt (.a (.bl b)) none ∧ (b = true ↔ ps = [] ∨ (0 < c ∧ CC n T ps c))
  | 0, c, ps, h, _, _ => absurd h (Nat.not_lt_zero _)
  | m + 1, c, ps, h, hp, hl => by
    have hb : Bd n ps := fun p hq => ⟨(hp p hq).1, (hp p hq).2.1⟩
    have hvR : isF (rwsD false L) = true := isF_rws
    have hvP : isF (prsD false ps) = true := isF_prs
    obtain ⟨cb, hcb, hcbi⟩ := circ_is (n := n) (T := T) (ps := ps) hn hp
    have hrec : ∀ i : Nat, ∃ b : Bool, ∀ r, L[i]? = some r → 0 < c → R_can_close m [ordT n T, prsD false (lefP ps r), rwsD false L, natD (c - 1)] = .rt (.a (.bl b)) none ∧ (b = true ↔ lefP ps r = [] ∨ (0 < c - 1 ∧ CC n T (lefP ps r) (c - 1))) := fun i => by
      by_cases hi : i < L.length ∧ 0 < c
      · obtain ⟨b, hb2⟩ := close_is hL hll m (c - 1) (lefP ps L[i]) (by omega) (lefP_PsT hp) (Nat.le_trans lefP_len hl)
        refine ⟨b, fun r hr _ => ?_⟩
        rw [List.getElem?_eq_getElem hi.1] at hr
        cases hr
        exact hb2
      · refine ⟨false, fun r hr hc => ?_⟩
        exact absurd ⟨(List.getElem?_eq_some_iff.mp hr).1, hc⟩ hi
    obtain ⟨bf, hbf⟩ := Classical.axiomOfChoice hrec
    have key : WF NoE (fun d io => (∃ b : Bool, d = .a (.bl b) ∧ (b = true ↔ ps = [] ∨ (0 < c ∧ CC n T ps c))) ∧ io = none) (R_can_close (m + 1) [ordT n T, prsD false ps, rwsD false L, natD c]) := by
      show WF _ _ (fnD 5 none (B_can_close (R_can_close m)) [ordT n T, prsD false ps, rwsD false L, natD c])
      rw [wf_fn]
      unfold B_can_close
      show WP _ (dSeq _ _ [some (ordT n T), some (prsD false ps), some (rwsD false L), some (natD c), none])
      refine wp_step fun K hK => ?_
      rw [wx, p_If]
      refine wo_ofB (eqN (b := 0) (lenP (var_eq rfl hvP)) (cE (x := .int 0))) ?_
      by_cases e0 : ps.length = 0
      · rw [if_pos (decide_eq_true e0), p_Bind]
        exact wo_of (cE (x := .bl true)) ⟨⟨_, rfl, fun _ => .inl (List.eq_nil_of_length_eq_zero e0), fun _ => rfl⟩, rfl⟩
      rw [if_neg (by rw [decide_eq_false e0]; decide), p_Next]
      apply hK
      clear hK K
      refine wp_step fun K hK => ?_
      rw [wx, p_If]
      refine wo_ofB (eqN (b := 0) (var_eq rfl rfl) (cE (x := .int 0))) ?_
      by_cases e1 : c = 0
      · rw [if_pos (decide_eq_true e1), p_Bind]
        exact wo_of (cE (x := .bl false)) ⟨⟨_, rfl, ⟨fun e => (by cases e), fun e => (by
          rcases e with e | ⟨e, _⟩
          · rw [e] at e0; exact absurd rfl e0
          · omega)⟩⟩, rfl⟩
      rw [if_neg (by rw [decide_eq_false e1]; decide), p_Next]
      apply hK
      clear hK K
      refine wp_step fun K hK => ?_
      rw [wx, p_If]
      refine wo_ofB (eqN (b := 1) (var_eq rfl rfl) (cE (x := .int 1))) ?_
      by_cases e2 : c = 1
      · rw [if_pos (decide_eq_true e2), p_Bind]
        exact wo_of (call2 (var_eq rfl isF_ordT) (var_eq rfl hvP) isF_ordT hvP hcb) ⟨⟨_, rfl, by
          rw [hcbi, e2]
          exact ⟨fun q => .inr ⟨by decide, q⟩, fun q => by
            rcases q with q | q
            · rw [q] at e0; exact absurd rfl e0
            · exact q.2⟩⟩, rfl⟩
      rw [if_neg (by rw [decide_eq_false e2]; decide), p_Next]
      apply hK
      clear hK K
      refine wp_cutK (fun ρ => ∀ i, i < L.length → bf i = false) (fun K hK => ?_) ?_
      · rw [wx]
        refine forRetV (ds := L.map tupN) bf (by simp) (itRws (var_eq rfl hvR) (by omega)) ?_ (fun i ρ' hi h => ⟨⟨_, rfl, fun _ => ?_, fun _ => rfl⟩, rfl⟩) fun h o => hK _ fun i hi => h i (by simpa using hi)
        rotate_left
        · have hi' : i < L.length := by simpa using hi
          have LE := (hL L[i]).mp (List.getElem_mem hi')
          refine .inr ⟨by omega, ?_⟩
          rcases ((hbf i L[i] (List.getElem?_eq_getElem hi') (by omega)).2.mp h) with q | ⟨q1, cs, q2, q3, q4⟩
          · refine ⟨List.replicate c L[i], by simp, fun r hr => by rw [List.eq_of_mem_replicate hr]; exact LE, fun p hpm => ?_⟩
            have := (lef_cov (cs := []) hp LE).mp (by rw [q]; intro p hp; cases hp) p hpm
            obtain ⟨r, hr, e⟩ := this
            have : r = L[i] := by simpa using hr
            subst this
            exact ⟨L[i], List.mem_replicate.mpr ⟨by omega, rfl⟩, e⟩
          · exact ⟨L[i] :: cs, by simp [q2]; omega, fun r hr => by
              rcases List.mem_cons.mp hr with rfl | hr
              · exact LE
              · exact q3 r hr, (lef_cov hp LE).mp q4⟩
        intro i d hd _
        obtain ⟨r, hr, rfl⟩ := par_get hd
        have hvr : isF (tupN r) = true := isF_tupN
        have hc1 : dOp2 gSub (dVar 3) (dC (.int 1)) [some (ordT n T), some (prsD false ps), some (rwsD false L), some (natD c), some (tupN r)] = .ok (natD (c - 1)) [some (ordT n T), some (prsD false ps), some (rwsD false L), some (natD c), some (tupN r)] := op2E (var_eq (d := natD c) rfl rfl) (cE (x := .int 1)) fun P => by
          have : (c : Int) - 1 = ((c - 1 : Nat) : Int) := by omega
          unfold natD
          rw [← this]
          exact o_sub
        have hlo := left_eq2 hn ((hL r).mp (List.mem_of_getElem? hr)).pm hb hl
        refine bE (callZ (ds := [ordT n T, prsD true (lefP ps r), rwsD false L, natD (c - 1)]) (agC (var_eq rfl isF_ordT) (agC (call2 (var_eq rfl hvP) (var_eq rfl hvr) hvP hvr hlo) (agC (var_eq rfl hvR) (agC hc1 agN)))) rfl ?_)
        have e : frzL [ordT n T, prsD true (lefP ps r), rwsD false L, natD (c - 1)] = [ordT n T, prsD false (lefP ps r), rwsD false L, natD (c - 1)] := by
          rw [frzL_cons, frzL_cons, frzL_cons, frz_isF _ isF_ordT, frz_isF _ hvR, frz_n, frzL_pr]
          rfl
        rw [e]
        exact (hbf i r hr (by omega)).1
      intro ρ hall
      rw [p_Bind]
      refine wo_of (cE (x := .bl false)) ⟨⟨_, rfl, fun e => (by cases e), fun e => ?_⟩, rfl⟩
      exfalso
      rcases e with e | ⟨hc0, cs, g1, g2, g3⟩
      · rw [e] at e0; exact e0 rfl
      · cases cs with
        | nil => simp at g1; omega
        | cons r cs =>
          have LE := g2 r (by simp)
          obtain ⟨i, hi⟩ := List.getElem?_of_mem ((hL r).mpr LE)
          have hil := (List.getElem?_eq_some_iff.mp hi).1
          have := (hbf i r hi hc0).2.mpr (.inr ⟨by omega, cs, by simp at g1; omega, fun s hs => g2 s (by simp [hs]), (lef_cov hp LE).mpr g3⟩)
          rw [hall i hil] at this
          cases this
    obtain ⟨d, io, h, ⟨b, rfl, hbi⟩, rfl⟩ := DC.wf_ex key
    exact ⟨b, h, hbi⟩
omit hn in
theorem same_is {k : Nat} {xs : List D} {L : List (List Nat)} (hk : k ≤ 50) (hl : xs.length ≤ 1000) (hx : ∀ x ∈ xs, Dat k x) : ∃ b : Bool, F_same_rows [.n .tup false xs, rwsD false L] = .rt (.a (.bl b)) none ∧ (b = true ↔ ∃ r ∈ L, D.n .tup false xs = tupN r) := by
  have hfx := dat_fl hx
  have hv : isF (.n .tup false xs) = true := by rw [isF_n, hfx]; rfl
  have hvR : isF (rwsD false L) = true := isF_rws
  have hch : ∀ i : Nat, ∃ c : Bool, ∀ x, xs[i]? = some x → F_is_integer [x] = .rt (.a (.bl c)) none ∧ (c = true ↔ ∃ z : Int, x = .a (.int z)) := fun i => by
    by_cases hi : i < xs.length
    · obtain ⟨c, h1, h2⟩ := dat_isI (hx xs[i] (List.getElem_mem hi))
      refine ⟨c, fun x hx => ?_⟩
      rw [List.getElem?_eq_getElem hi] at hx
      cases hx
      refine ⟨h1, h2, fun ⟨z, hz⟩ => ?_⟩
      rw [hz, isint_eq z] at h1
      cases h1
      rfl
    · refine ⟨false, fun x hx => ?_⟩
      rw [List.getElem?_eq_none (by omega)] at hx
      cases hx
  obtain ⟨cf, hcf⟩ := Classical.axiomOfChoice hch
  have key : WF NoE (fun d io => (∃ b : Bool, d = .a (.bl b) ∧ (b = true ↔ ∃ r ∈ L, D.n .tup false xs = tupN r)) ∧ io = none) (F_same_rows [.n .tup false xs, rwsD false L]) := by
    unfold F_same_rows
    rw [wf_fn]
    unfold B_same_rows
    show WP _ (dSeq _ _ [some (.n .tup false xs), some (rwsD false L), none])
    refine wp_cutK (fun ρ => ∃ o, ρ = [some (.n .tup false xs), some (rwsD false L), o] ∧ ∀ x ∈ xs, ∃ z : Int, x = .a (.int z)) (fun K hK => ?_) ?_
    · rw [wx]
      refine forRet (ds := xs) (fun i => !cf i) (by simp) (itTup rfl hfx (by omega)) ?_ (fun i ρ' hi h => ⟨⟨_, rfl, fun e => (by cases e), fun ⟨r, _, hr⟩ => ?_⟩, rfl⟩) fun h o => hK _ ⟨o, rfl, fun x hxm => ?_⟩
      rotate_left
      · exfalso
        unfold tupN at hr
        injection hr with _ _ hr
        have hxi := List.getElem?_eq_getElem hi
        have := (hcf i xs[i] hxi).2.mpr (by
          have h2 : xs[i] ∈ r.map natD := by rw [← hr]; exact List.getElem_mem hi
          obtain ⟨v, _, e⟩ := List.mem_map.mp h2
          exact ⟨v, e.symm⟩)
        rw [this] at h
        cases h
      rotate_left
      · intro i d hd _
        exact notE (bE (call1 (var_eq rfl (isFL_mem hfx _ (List.mem_of_getElem? hd))) (isFL_mem hfx _ (List.mem_of_getElem? hd)) (hcf i d hd).1))
      · obtain ⟨i, hi⟩ := List.getElem?_of_mem hxm
        have := h i (List.getElem?_eq_some_iff.mp hi).1
        exact (hcf i x hi).2.mp (by simpa using this)
    rintro _ ⟨o, rfl, hz⟩
    rw [p_Bind]
    have hp1 : pD 60 (.n .tup false xs) = true := by
      have : pDL 59 xs = true := pDL_all fun x hxm => by
        obtain ⟨z, rfl⟩ := hz x hxm
        simp [pD]
      simp [pD, this]
    have hp2 : pDL 60 (L.map tupN) = true := pDL_all fun y hy => by
      obtain ⟨r, _, rfl⟩ := List.mem_map.mp hy
      have : pDL 59 (r.map natD) = true := pDL_all fun x hxm => by
        obtain ⟨v, _, rfl⟩ := List.mem_map.mp hxm
        simp [natD, pD]
      unfold tupN
      simp [pD, this]
    refine wo_of (op2E (a := .n .tup false xs) (b := rwsD false L) (d := .a (.bl (anyEq (.n .tup false xs) (L.map tupN)))) (var_eq rfl hv) (var_eq rfl hvR) fun P => ?_) ⟨⟨_, rfl, fun e => ?_, fun ⟨r, hr, e⟩ => ?_⟩, rfl⟩
    · unfold gIn gInB
      dsimp only
      rw [if_pos ⟨hp1, hp2⟩]
      rfl
    · obtain ⟨y, hy, he⟩ := anyEq_ex e
      obtain ⟨r, hr, rfl⟩ := List.mem_map.mp hy
      unfold tupN at he
      rw [eqD] at he
      refine ⟨r, hr, ?_⟩
      unfold tupN
      rw [eqDL_nats2 hz he]
    · have hm : D.n .tup false xs ∈ L.map tupN := by rw [e]; exact List.mem_map_of_mem hr
      have key : ∀ ys : List D, D.n .tup false xs ∈ ys → anyEq (.n .tup false xs) ys = true := fun ys => by
        induction ys with
        | nil => intro h; cases h
        | cons y ys ih =>
          intro h
          rw [anyEq, Bool.or_eq_true]
          rcases List.mem_cons.mp h with q | q
          · left
            rw [← q]
            exact eqD_refl 60 _ hp1
          · exact .inr (ih q)
      exact key _ hm
  obtain ⟨d, io, h, ⟨b, rfl, h2⟩, rfl⟩ := DC.wf_ex key
  exact ⟨b, h, h2⟩
end
end DX
set_option pp.maxSteps 1500
namespace DX
open PySem L2 DL DC
def TD (n : Nat) (T : Tb) (d : D) : Prop := ∃ cs : List (List Nat), d = .n .tup false [.a (.str "dimension"), .n .tup false (cs.map tupN)] ∧ cs ≠ [] ∧ (∀ r ∈ cs, LinE n T r) ∧ Cov2 (prs n (opT T)) cs ∧ (cs.length = 1 ∨ ¬ CC n T (prs n (opT T)) (min (cs.length - 1) 3))
theorem no_tup {xs : List D} (h : ∀ P : D → Prop, SO (gIsi "tuple" (.n .tup false xs)) P = P (.a (.bl false))) (hf : isFL xs = true) : False := by
  have h1 : SO (gIsi "tuple" (.n .tup false xs)) (fun d => d = .a (.bl true)) := by
    rw [o_isi (t := "tuple") rfl]
    simp [isiT]
  rw [h] at h1
  cases h1
theorem fold_PsT {n : Nat} : ∀ {cs : List (List Nat)} {ps : Prs}, PsT n ps → PsT n (cs.foldl lefP ps)
  | [], _, h => h
  | r :: cs, ps, h => fold_PsT (cs := cs) (lefP_PsT h)
theorem fold_len : ∀ {cs : List (List Nat)} {ps : Prs}, (cs.foldl lefP ps).length ≤ ps.length
  | [], _ => Nat.le_refl _
  | r :: cs, ps => Nat.le_trans (fold_len (cs := cs) (ps := lefP ps r)) lefP_len
theorem fold_cov {n : Nat} {T : Tb} : ∀ {cs : List (List Nat)} {ps : Prs}, PsT n ps → (∀ r ∈ cs, LinE n T r) → (cs.foldl lefP ps = [] ↔ Cov2 ps cs)
  | [], ps, _, _ => by
    constructor
    · intro h p hp
      rw [show ps = [] from h] at hp
      cases hp
    · intro h
      refine List.eq_nil_iff_forall_not_mem.mpr fun p hp => ?_
      obtain ⟨r, hr, _⟩ := h p hp
      cases hr
  | r :: cs, ps, h, hc => (fold_cov (cs := cs) (lefP_PsT h) fun s hs => hc s (by simp [hs])).trans (lef_cov h (hc r (by simp)))
theorem tupN_inj {a b : List (List Nat)} (h : a.map tupN = b.map tupN) : a = b := by
  refine List.map_inj_right (fun x y e => ?_) |>.mp h
  unfold tupN at e
  injection e with _ _ e
  exact List.map_inj_right (fun i j q => by
    unfold natD at q
    injection q with q
    injection q with q
    omega) |>.mp e
section
variable {n : Nat} {T : Tb} (hn : n ≤ 60)
include hn
theorem td_is {k : Nat} {d : D} (iT : Irr n T) (hk : k ≤ 40) (hn6 : n ≤ 6) (hc : ∀ k, k ≤ n → (linK n T k).length ≤ 1000) (hd : Dat (k + 3) d) : ∃ v : Bool, F_takes_dimension [ordT n T, d] = .rt (.a (.bl v)) none ∧ (v = true ↔ TD n T d) := by
  have hfd := dat_f hd
  have key : WF NoE (fun e io => (∃ b : Bool, e = .a (.bl b) ∧ (b = true ↔ TD n T d)) ∧ io = none) (F_takes_dimension [ordT n T, d]) := by
    unfold F_takes_dimension
    rw [wf_fn]
    unfold B_takes_dimension
    show WP _ (dSeq _ _ [some (ordT n T), some d, none, none, none])
    refine wp_cutK (fun ρ => ρ = [some (ordT n T), some d, none, none, none]) (fun K hK => ?_) ?_
    · rw [wx]
      refine if_no ((gtE (b := 6) (fldE rfl) (cE (x := .int 6))).trans (by rw [decide_eq_false (by omega)])) ?_
      rw [p_Next]
      exact hK _ rfl
    rintro _ rfl
    refine wp_cutK (fun ρ => ρ = [some (ordT n T), some d, none, none, none] ∧ ∃ ds, d = .n .tup false [.a (.str "dimension"), .n .tup false ds] ∧ ds.length ≤ 60 ∧ ∀ x ∈ ds, Dat (k + 1) x) (fun K hK => ?_) ?_
    · rw [wx]
      rcases dat_tup hd with ⟨xs, rfl, hl, hx⟩ | hno
      · have hfx := dat_fl hx
        by_cases h2 : xs.length = 2
        · obtain ⟨w, v, rfl⟩ : ∃ w v, xs = [w, v] := by
            match xs, h2 with
            | [w, v], _ => exact ⟨w, v, rfl⟩
          have hdv := hx v (by simp)
          have hfv := dat_f hdv
          obtain ⟨c1, e1, e2, e3⟩ := dat_word (w := "dimension") (by omega) (hx w (by simp)) (by decide +kernel)
          have hw : dB (dOp2 gNe (dOp2 gIx (dVar 1) (dC (.int 0))) (dC (.str "dimension"))) [some (ordT n T), some (.n .tup false [w, v]), none, none, none] = .ok (!c1) [some (ordT n T), some (.n .tup false [w, v]), none, none, none] := bE (op2E (ixTP (i := 0) (var_eq rfl hfd) (cE (x := .int 0)) rfl (dat_f (hx w (by simp)))) (cE (x := .str "dimension")) e2)
          have hv1 : dOp2 gIx (dVar 1) (dC (.int 1)) [some (ordT n T), some (.n .tup false [w, v]), none, none, none] = .ok v [some (ordT n T), some (.n .tup false [w, v]), none, none, none] := ixTP (i := 1) (var_eq rfl hfd) (cE (x := .int 1)) rfl hfv
          have hh := fun (b : Bool) hb => orE (notE (isTup (ρ := [some (ordT n T), some (.n .tup false [w, v]), none, none, none]) (i := 1) rfl hfx)) fun _ => orE (neN (b := 2) (lenT (var_eq (i := 1) rfl hfd)) (cE (x := .int 2))) fun _ => orE (b := b) (g := dNotT (dB (dU (gIsi "tuple") (dOp2 gIx (dVar 1) (dC (.int 1)))))) hw hb
          cases c1 with
          | false =>
            refine if_ret ((hh true fun e => by cases e).trans (by simp)) ⟨⟨false, rfl, fun e => (by cases e), fun ⟨cs, e, _⟩ => ?_⟩, rfl⟩
            injection e with _ _ e
            injection e with e
            subst e
            have := e1 (fun d => d = .a (.bl true))
            rw [o_eqS] at this
            simp at this
          | true =>
            have hwe := e3 rfl
            subst hwe
            rcases dat_tup hdv with ⟨ds, rfl, hdl, hds⟩ | hnt
            · refine if_no ((hh false fun _ => notE (isT_E hv1 (dat_fl hds))).trans (by simp)) ?_
              rw [p_Next]
              exact hK _ ⟨rfl, ds, rfl, hdl, hds⟩
            · refine if_ret ((hh true fun _ => notE (bE (uE hv1 hnt))).trans (by simp)) ⟨⟨false, rfl, fun e => (by cases e), fun ⟨cs, e, _⟩ => ?_⟩, rfl⟩
              injection e with _ _ e
              injection e with _ e
              injection e with e
              exact (no_tup (by rw [← e]; exact hnt) (isFL_map fun _ => isF_tupN)).elim
        · exact if_ret ((orE (notE (isTup rfl hfx)) fun _ => (orE (neN (b := 2) (lenT (var_eq rfl hfd)) (cE (x := .int 2))) (b := true) fun e => absurd (by simpa using e) h2)).trans (by simp)) ⟨⟨false, rfl, fun e => (by cases e), fun ⟨cs, e, _⟩ => (by injection e with _ _ e; rw [e] at h2; exact absurd rfl h2)⟩, rfl⟩
      · refine if_ret (orE (notE (bE (uE (var_eq rfl hfd) hno))) (b := true) fun e => by cases e) ⟨⟨false, rfl, fun e => (by cases e), fun ⟨cs, e, _⟩ => ?_⟩, rfl⟩
        subst e
        exact (no_tup hno (by rw [isF_n] at hfd; exact hfd)).elim
    rintro _ ⟨rfl, ds, hde, hdl, hds⟩
    have hTD : TD n T d ↔ ∃ cs : List (List Nat), ds = cs.map tupN ∧ cs ≠ [] ∧ (∀ r ∈ cs, LinE n T r) ∧ Cov2 (prs n (opT T)) cs ∧ (cs.length = 1 ∨ ¬ CC n T (prs n (opT T)) (min (cs.length - 1) 3)) := by
      rw [hde]
      constructor
      · rintro ⟨cs, e, h⟩
        injection e with _ _ e
        injection e with _ e
        injection e with e
        injection e with _ _ e
        exact ⟨cs, e, h⟩
      · rintro ⟨cs, rfl, h⟩
        exact ⟨cs, rfl, h⟩
    have hfds := dat_fl hds
    have hone : ∀ {ρ : DL.Env}, ρ[1]? = some (some d) → dOp2 gIx (dVar 1) (dC (.int 1)) ρ = .ok (.n .tup false ds) ρ := fun {ρ} h => by
      subst hde
      exact ixTP (i := 1) (var_eq h hfd) (cE (x := .int 1)) rfl (by rw [isF_n, hfds]; rfl)
    clear hd hde
    have hLi : ∀ r, r ∈ linK n T n ↔ LinE n T r := fun r => by rw [linK_W]; exact linE_W iT
    have hLl := hc n (Nat.le_refl n)
    have hlin := linear_eq (T := T) hn hc
    generalize linK n T n = L at hLi hLl hlin
    have hPT : PsT n (prs n (opT T)) := fun p hp => by
      obtain ⟨x, y⟩ := p
      rw [mem_prs] at hp
      obtain ⟨h1, h2, h3⟩ := hp
      refine ⟨h1, h2, fun e => ?_⟩
      have e : x = y := e
      subst e
      unfold opT at h3
      simp at h3
    have hvR : isF (rwsD false L) = true := isF_rws
    have hop := open_eq (T := T) hn
    have hopl : (prs n (opT T)).length ≤ 10000 := by
      have h1 := prs_lenn (n := n) (T := opT T)
      have h3 : n * n ≤ 60 * 60 := Nat.mul_le_mul hn hn
      omega
    refine wp_cutK (fun ρ => ρ = [some (ordT n T), some d, some (rwsD false L), none, none]) (fun K hK => ?_) ?_
    · rw [wx, p_Bind]
      refine wo_of (call1 (var_eq rfl isF_ordT) isF_ordT hlin) ?_
      rw [p_Set]
      exact ⟨by simp, hK _ rfl⟩
    rintro _ rfl
    refine wp_cutK (fun ρ => ρ = [some (ordT n T), some d, some (rwsD false L), some (prsD false (prs n (opT T))), none]) (fun K hK => ?_) ?_
    · rw [wx, p_Bind]
      have h1 := w_fz (call1 (ρ := [some (ordT n T), some d, some (rwsD false L), none, none]) (fa := dVar 0) (var_eq rfl isF_ordT) isF_ordT hop)
      rw [frz_isF _ isF_prs] at h1
      refine wo_of h1 ?_
      rw [p_Set]
      exact ⟨by simp, hK _ rfl⟩
    rintro _ rfl
    refine wp_cutK (fun ρ => ∃ (cs : List (List Nat)) (o4 : Option D), ρ = [some (ordT n T), some d, some (rwsD false L), some (prsD false (cs.foldl lefP (prs n (opT T)))), o4] ∧ ds = cs.map tupN ∧ ∀ r ∈ cs, LinE n T r) (fun K hK => ?_) ?_
    · have hit : dIter (dOp2 gIx (dVar 1) (dC (.int 1))) [some (ordT n T), some d, some (rwsD false L), some (prsD false (prs n (opT T))), none] = .ok ds [some (ordT n T), some d, some (rwsD false L), some (prsD false (prs n (opT T))), none] := by
        apply out_eq
        rw [w_Iter, hone rfl, wo_ok]
        simp [hfds]
        omega
      rw [wx, p_For, hit, wo_ok]
      refine wp_forK (fun i ρ => ∃ (cs : List (List Nat)) (o4 : Option D), ρ = [some (ordT n T), some d, some (rwsD false L), some (prsD false (cs.foldl lefP (prs n (opT T)))), o4] ∧ ds.take i = cs.map tupN ∧ ∀ r ∈ cs, LinE n T r) ⟨[], none, rfl, by simp, fun r h => by cases h⟩ ?_ ?_
      · rintro i x _ hxi ⟨cs, o4, rfl, htk, hcs⟩ J hJ
        have hPc : PsT n (cs.foldl lefP (prs n (opT T))) := fold_PsT hPT
        have hb : Bd n (cs.foldl lefP (prs n (opT T))) := fun p hq => ⟨(hPc p hq).1, (hPc p hq).2.1⟩
        have hpl : (cs.foldl lefP (prs n (opT T))).length ≤ 10000 := Nat.le_trans fold_len hopl
        have htk2 : ds.take (i + 1) = ds.take i ++ [x] := by rw [List.take_succ, hxi]; rfl
        have hbadx : (∀ r, LinE n T r → x ≠ tupN r) → ¬ TD n T d := fun hbad htd => by
          obtain ⟨cs2, e, _, h2, _⟩ := hTD.mp htd
          have hxm := List.mem_of_getElem? hxi
          rw [e] at hxm
          obtain ⟨r, hr, e2⟩ := List.mem_map.mp hxm
          exact hbad r (h2 r hr) e2.symm
        generalize hPS : cs.foldl lefP (prs n (opT T)) = ps at *
        have hdx := hds x (List.mem_of_getElem? hxi)
        have hfx := dat_f hdx
        rw [s_tg1]
        refine ⟨by simp, ?_⟩
        refine wp_step fun K2 hK2 => ?_
        rw [wx]
        rcases dat_tup hdx with ⟨xs, rfl, hxl, hxs⟩ | hno
        · obtain ⟨b, hb1, hb2⟩ := same_is (L := L) (k := k) (by omega) (by omega) hxs
          have hc := orE (notE (isTup (ρ := [some (ordT n T), some d, some (rwsD false L), some (prsD false ps), some (.n .tup false xs)]) (i := 4) rfl (dat_fl hxs))) fun _ => notE (bE (call2 (var_eq (i := 4) rfl hfx) (var_eq (i := 2) rfl hvR) hfx hvR hb1))
          cases b with
          | false =>
            refine if_ret (hc.trans (by simp)) ⟨⟨false, rfl, fun e => (by cases e), fun htd => absurd htd (hbadx fun r hr e => ?_)⟩, rfl⟩
            have := hb2.mpr ⟨r, (hLi r).mpr hr, e⟩
            cases this
          | true =>
            refine if_no (hc.trans (by simp)) ?_
            rw [p_Next]
            apply hK2
            obtain ⟨r, hr, e⟩ := hb2.mp rfl
            rw [e]
            have hvr : isF (tupN r) = true := isF_tupN
            have hlo := left_eq2 hn ((hLi r).mp hr).pm hb hpl
            have h1 := w_fz (call2 (ρ := [some (ordT n T), some d, some (rwsD false L), some (prsD false ps), some (tupN r)]) (fa := dVar 3) (fb := dVar 4) (var_eq rfl isF_prs) (var_eq rfl hvr) isF_prs hvr hlo)
            rw [frz_n, frzL_pr] at h1
            rw [p_Bind]
            refine wo_of h1 ?_
            rw [p_Set]
            refine ⟨by simp, hJ _ ⟨cs ++ [r], some (tupN r), ?_, by rw [htk2, htk, e, List.map_append]; rfl, fun s hs => ?_⟩⟩
            · rw [List.foldl_append, hPS]
              rfl
            · rcases List.mem_append.mp hs with q | q
              · exact hcs s q
              · have : s = r := by simpa using q
                rw [this]
                exact (hLi r).mp hr
        · refine if_ret (orE (notE (bE (uE (var_eq rfl hfx) hno))) (b := true) fun e => by cases e) ⟨⟨false, rfl, fun e => (by cases e), fun htd => absurd htd (hbadx fun r hr e => ?_)⟩, rfl⟩
          subst e
          exact no_tup hno isFL_nat
      · rintro _ ⟨cs, o4, rfl, htk, hcs⟩
        rw [List.take_length] at htk
        exact hK _ ⟨cs, o4, rfl, htk, hcs⟩
    rintro _ ⟨cs, o4, rfl, hdsc, hcs⟩
    have hTD2 : TD n T d ↔ cs ≠ [] ∧ Cov2 (prs n (opT T)) cs ∧ (cs.length = 1 ∨ ¬ CC n T (prs n (opT T)) (min (cs.length - 1) 3)) := by
      rw [hTD]
      constructor
      · rintro ⟨cs2, e, h1, _, h2, h3⟩
        rw [hdsc] at e
        have := tupN_inj e
        subst this
        exact ⟨h1, h2, h3⟩
      · rintro ⟨h1, h2, h3⟩
        exact ⟨cs, hdsc, h1, hcs, h2, h3⟩
    have hlds : ds.length = cs.length := by rw [hdsc, List.length_map]
    have hfold := fold_cov (T := T) hPT hcs
    generalize cs.foldl lefP (prs n (opT T)) = ps at *
    have hvP : isF (prsD false ps) = true := isF_prs
    refine wp_cutK (fun ρ => ρ = [some (ordT n T), some d, some (rwsD false L), some (prsD false ps), o4] ∧ 0 < ds.length ∧ ps = []) (fun K hK => ?_) ?_
    · rw [wx]
      have hcc := orE (eqN (ρ := [some (ordT n T), some d, some (rwsD false L), some (prsD false ps), o4]) (b := 0) (lenT (hone rfl)) (cE (x := .int 0))) fun _ => gtE (b := 0) (lenP (var_eq (i := 3) rfl hvP)) (cE (x := .int 0))
      by_cases q : (decide (ds.length = 0) || decide (0 < ps.length)) = true
      · rw [q] at hcc
        refine if_ret hcc ⟨⟨false, rfl, fun e => (by cases e), fun htd => ?_⟩, rfl⟩
        obtain ⟨h1, h2, _⟩ := hTD2.mp htd
        rw [Bool.or_eq_true, decide_eq_true_eq, decide_eq_true_eq] at q
        rcases q with q | q
        · exact absurd (List.eq_nil_of_length_eq_zero (by omega)) h1
        · rw [hfold.mpr h2] at q
          cases q
      · rw [show (decide (ds.length = 0) || decide (0 < ps.length)) = false by simpa using q] at hcc
        refine if_no hcc ?_
        rw [p_Next]
        rw [Bool.or_eq_true, decide_eq_true_eq, decide_eq_true_eq] at q
        exact hK _ ⟨rfl, by omega, List.eq_nil_of_length_eq_zero (by omega)⟩
    rintro _ ⟨rfl, hd0, hps0⟩
    have hne : cs ≠ [] := fun e => by rw [e] at hlds; rw [hlds] at hd0; cases hd0
    have hcov := hfold.mp hps0
    refine wp_cutK (fun ρ => ρ = [some (ordT n T), some d, some (rwsD false L), some (prsD false ps), o4] ∧ 2 ≤ ds.length) (fun K hK => ?_) ?_
    · rw [wx, p_If]
      refine wo_ofB (eqN (b := 1) (lenT (hone rfl)) (cE (x := .int 1))) ?_
      by_cases q : ds.length = 1
      · rw [if_pos (decide_eq_true q), p_Bind]
        exact wo_of (cE (x := .bl true)) ⟨⟨true, rfl, fun _ => hTD2.mpr ⟨hne, hcov, .inl (by omega)⟩, fun _ => rfl⟩, rfl⟩
      · rw [if_neg (by rw [decide_eq_false q]; decide), p_Next]
        exact hK _ ⟨rfl, by omega⟩
    rintro _ ⟨rfl, hd2⟩
    have hmin : dOp2 gMin2 (dOp2 gSub (dU gLen (dOp2 gIx (dVar 1) (dC (.int 1)))) (dC (.int 1))) (dC (.int 3)) [some (ordT n T), some d, some (rwsD false L), some (prsD false ps), o4] = .ok (natD (min (ds.length - 1) 3)) [some (ordT n T), some d, some (rwsD false L), some (prsD false ps), o4] := minE (b := 3) (op2E (lenT (hone rfl)) (cE (x := .int 1)) fun P => by
      have : (ds.length : Int) - 1 = ((ds.length - 1 : Nat) : Int) := by omega
      unfold natD
      rw [← this]
      exact o_sub) (cE (x := .int 3))
    obtain ⟨b, hb, hbi⟩ := close_is (T := T) hn hLi hLl 12 (min (ds.length - 1) 3) (prs n (opT T)) (by omega) hPT hopl
    rw [p_Bind]
    refine wo_of (notV (call4 (var_eq rfl isF_ordT) (call1 (var_eq rfl isF_ordT) isF_ordT hop) (var_eq rfl hvR) hmin isF_ordT isF_prs hvR rfl hb)) ⟨⟨_, rfl, ?_⟩, rfl⟩
    rw [hTD2, Bool.not_eq_true']
    have hb' : b = false ↔ ¬ CC n T (prs n (opT T)) (min (cs.length - 1) 3) := by
      rw [← hlds]
      constructor
      · intro e hcc
        have := hbi.mpr (.inr ⟨by omega, hcc⟩)
        rw [e] at this
        cases this
      · intro hcc
        cases e : b with
        | false => rfl
        | true =>
          rcases hbi.mp e with q | ⟨_, q⟩
          · obtain ⟨r, hr⟩ := List.exists_mem_of_ne_nil _ hne
            exact absurd ⟨List.replicate (min (ds.length - 1) 3) r, by simp, fun s hs => (by rw [List.eq_of_mem_replicate hs]; exact hcs r hr), fun p hp => (by rw [q] at hp; cases hp)⟩ hcc
          · exact absurd q hcc
    rw [hb']
    constructor
    · exact fun h => ⟨hne, hcov, .inr h⟩
    · rintro ⟨_, _, h | h⟩
      · omega
      · exact h
  obtain ⟨e, io, h, ⟨b, rfl, h2⟩, rfl⟩ := DC.wf_ex key
  exact ⟨b, h, h2⟩
end
end DX
set_option pp.maxSteps 1500
namespace DX
open PySem L2 DL DC
def mtT (T : Tb) (r : List Nat) (x y : Nat) : Bool := !decide (x = y) && (T x y || (!T y x && decide (r.idxOf y < r.idxOf x)))
def mateB (n : Nat) (T : Tb) (r : List Nat) : Bool := (List.range n).all fun x => (List.range n).all fun y => !mtT T r x y || (List.range n).all fun z => !(mtT T r y z && mtT T r z x)
theorem op_unl {T : Tb} : opT T = unl T := by
  funext x y
  unfold opT unl
  cases decide (x = y) <;> cases T x y <;> cases T y x <;> rfl
theorem op_lse {n : Nat} {T : Tb} : prs n (opT T) = Lse n T := by rw [op_unl]
theorem sub_lenR : ∀ {a b : List (List Nat)}, a.Nodup → (∀ x ∈ a, x ∈ b) → a.length ≤ b.length
  | [], b, _, _ => by simp
  | x :: a, b, nd, h => by
    obtain ⟨h1, h2⟩ := List.nodup_cons.mp nd
    have hx := h x (by simp)
    have := sub_lenR (a := a) (b := b.erase x) h2 fun y hy => (List.mem_erase_of_ne (fun e => h1 (by rw [e] at hy; exact hy))).mpr (h y (by simp [hy]))
    rw [List.length_erase_of_mem hx] at this
    have h3 := List.length_pos_of_mem hx
    simp
    omega
theorem told_min {n c : Nat} {T : Tb} {L cs : List (List Nat)} (iT : Irr n T) (h : Told n T c L) (hne : cs ≠ []) (hm : ∀ r ∈ cs, r ∈ Wys n T) (hc : Cov2 (Lse n T) cs) : c + 1 ≤ cs.length := by
  obtain ⟨R, hRd⟩ : ∃ R, R = (Wys n T).filter fun r => decide (r ∈ cs) := ⟨_, rfl⟩
  have hmem : ∀ r, r ∈ R ↔ r ∈ cs := fun r => by
    rw [hRd, List.mem_filter, decide_eq_true_iff]
    exact ⟨fun q => q.2, fun q => ⟨hm r q, q⟩⟩
  have hR : R ≠ [] := by
    obtain ⟨r, hr⟩ := List.exists_mem_of_ne_nil _ hne
    exact List.ne_nil_of_mem ((hmem r).mpr hr)
  obtain ⟨l', z, e⟩ := split_last hR
  have hs : R.Pairwise fun a b => ltR a b = true := by
    rw [hRd]
    exact List.Pairwise.filter _ wys_sorted
  have hlen := sub_lenR (sorted_nodup hs) fun x hx => (hmem x).mp hx
  have hRW : ∀ r ∈ R, r ∈ Wys n T := fun r hr => hm r ((hmem r).mp hr)
  have hx : ext (Wys n T) l'.length [] (Lse n T) ≠ none := by
    refine ext_ne (cs := l') (z := z) (wys_tells iT) rfl (fun r hr => hRW r (by rw [e]; simp [hr])) (hRW z (by rw [e]; simp)) ?_ ?_ (fun r hr => rfl)
    · rw [← e]
      exact cov_mem hc fun r hr => (hmem r).mpr hr
    · rw [e] at hs
      exact (List.pairwise_append.mp hs).1
  rw [e, List.length_append, List.length_singleton] at hlen
  refine Classical.byContradiction fun q => hx (h.mn _ (by omega))
def TM (m : Nat) : Tb := fun x y => decide (x < y) && m.testBit (x + y * (y - 1) / 2)
def keepB (T : Tb) (r : List Nat) : Bool := (List.range r.length).all fun i => (List.range i).all fun j => !T (DC.itL r i) (DC.itL r j)
def trB (n : Nat) (T : Tb) : Bool := (List.range n).all fun x => (List.range n).all fun y => !T x y || (List.range n).all fun z => !T y z || T x z
def chkN (n : Nat) : Bool := (List.range (2 ^ (n * (n - 1) / 2))).all fun m => !trB n (TM m) || (arrK n n).any fun r => keepB (TM m) r && mateB n (TM m) r
end DX
set_option pp.maxSteps 1500
namespace DX
open PySem L2 DL DC
end DX
set_option pp.maxSteps 1500
namespace DX
open PySem L2 DL DC
theorem linK_rwL {n : Nat} {T : Tb} : ∀ k, linK n T k = rwL n T k := fun k => by
  induction k with
  | zero => rfl
  | succ k ih =>
    show (linK n T k).flatMap (fun r => extR n T r n) = (rwL n T k).flatMap fun r => (fl n T (setm r)).map fun x => r ++ [x]
    rw [ih]
    congr 1
    funext r
    unfold extR fl
    congr 1
    apply List.filter_congr
    intro x _
    rw [setm_bit]
    congr 1
    unfold freeB
    congr 1
    funext y
    rw [setm_bit]
    cases T y x <;> simp
def dimD (x : D) : D := .n .tup false [.a (.str "dimension"), x]
section
variable {n : Nat} {T : Tb}
theorem TD_par {A : List (List Nat)} : TD n T (dimD (parD A)) ↔ A ≠ [] ∧ (∀ r ∈ A, LinE n T r) ∧ Cov2 (Lse n T) A ∧ (A.length = 1 ∨ ¬ CC n T (Lse n T) (min (A.length - 1) 3)) := by
  unfold TD
  rw [op_lse]
  constructor
  · rintro ⟨cs, e, h⟩
    unfold dimD parD at e
    injection e with _ _ e
    injection e with _ e
    injection e with e _
    injection e with _ _ e
    have := tupN_inj e
    subst this
    exact h
  · intro h
    exact ⟨A, rfl, h⟩
def Bad (n : Nat) (T : Tb) (d : D) : Prop := isF d = true ∧ F_takes_dimension [ordT n T, d] = .rt (.a (.bl false)) none
theorem takes_is {d : D} (hn : n ≤ 6) (iT : Irr n T) (hd : Dat 4 d) : ∃ v : Bool, F_takes_dimension [ordT n T, d] = .rt (.a (.bl v)) none ∧ (v = true ↔ TD n T d) :=
  td_is (by omega) iT (k := 1) (by decide) hn (fun k hk => by
    rw [linK_rwL]
    have h1 := rwL_dfa iT k hk
    have h2 := dfa6 hn hk
    omega) hd
theorem bad_of {d : D} (hn : n ≤ 6) (iT : Irr n T) (hd : Dat 4 d) (h : ¬ TD n T d) : Bad n T d := by
  obtain ⟨v, h1, h2⟩ := takes_is hn iT hd
  refine ⟨dat_f hd, ?_⟩
  cases v with
  | false => exact h1
  | true => exact absurd (h2.mp rfl) h
theorem good_of {d : D} (hn : n ≤ 6) (iT : Irr n T) (hd : Dat 4 d) (h : TD n T d) : F_takes_dimension [ordT n T, d] = .rt (.a (.bl true)) none := by
  obtain ⟨v, h1, h2⟩ := takes_is hn iT hd
  rw [h2.mpr h] at h1
  exact h1
theorem dat_wd {k : Nat} : Dat k (.a (.str "dimension")) := dat_w (by decide +kernel)
theorem dat_dim {k : Nat} {x : D} (h : Dat k x) : Dat (k + 1) (dimD x) := dat_lst (.inl rfl) (by simp) fun y hy => by
  rcases List.mem_cons.mp hy with rfl | hy
  · exact dat_wd
  · exact dat_one h y hy
theorem dat_dpar {A : List (List Nat)} (h : A.length ≤ 60) (hf : ∀ r ∈ A, r.length ≤ 60) : Dat 4 (dimD (parD A)) := dat_dim (k := 3) (dat_par (k := 1) h hf)
end
section
variable {n c : Nat} {T : Tb} {L : List (List Nat)}
structure Cx (n c : Nat) (T : Tb) (L : List (List Nat)) : Prop where
  n6 : n ≤ 6
  tT : Tr n T
  iT : Irr n T
  told : Told n T c L
  c2 : c ≤ 2
theorem Cx.len (h : Cx n c T L) : L.length = c + 1 := (h.told.ok h.iT).1
theorem Cx.lin (h : Cx n c T L) : ∀ r ∈ L, LinE n T r := fun r hr => (linE_W h.iT).mp ((h.told.ok h.iT).2.1 r hr)
theorem Cx.cov (h : Cx n c T L) : Cov2 (Lse n T) L := (h.told.ok h.iT).2.2.1
theorem Cx.few (h : Cx n c T L) {A : List (List Nat)} (hne : A ≠ []) (hl : ∀ r ∈ A, LinE n T r) (hc : Cov2 (Lse n T) A) : c + 1 ≤ A.length := told_min h.iT h.told hne (fun r hr => (linE_W h.iT).mpr (hl r hr)) hc
theorem Cx.rl (h : Cx n c T L) : ∀ r ∈ L, r.length ≤ 60 := fun r hr => by
  rw [(h.lin r hr).pm.len]
  have := h.n6
  omega
theorem Cx.good (h : Cx n c T L) {A : List (List Nat)} (hA : A.length = c + 1) (hm : ∀ r, r ∈ A ↔ r ∈ L) : F_takes_dimension [ordT n T, dimD (parD A)] = .rt (.a (.bl true)) none := by
  have hc2 := h.c2
  refine good_of h.n6 h.iT (dat_dpar (by omega) fun r hr => h.rl r ((hm r).mp hr)) (TD_par.mpr ⟨fun e => ?_, fun r hr => h.lin r ((hm r).mp hr), cov_mem h.cov fun r hr => (hm r).mpr hr, ?_⟩)
  · rw [e] at hA
    cases hA
  · by_cases q : c = 0
    · exact .inl (by omega)
    · refine .inr ?_
      rintro ⟨cs, g1, g2, g3⟩
      have := h.few (A := cs) (fun e => by rw [e] at g1; simp at g1; omega) g2 g3
      omega
theorem Cx.twice (h : Cx n c T L) {r0 : List Nat} {L1 : List (List Nat)} (hL : L = r0 :: L1) (h1 : 1 ≤ c) : Bad n T (dimD (parD ([r0] ++ L.take (L.length - 1)))) := by
  have hc2 := h.c2
  have hlen := h.len
  have hm : ∀ r ∈ [r0] ++ L.take (L.length - 1), r ∈ L.take (L.length - 1) := fun r hr => by
    rcases List.mem_append.mp hr with q | q
    · rw [List.mem_singleton.mp q, hL]
      have e : (r0 :: L1).length - 1 = (L1.length - 1) + 1 := by
        rw [hL] at hlen
        simp at hlen ⊢
        omega
      rw [e, List.take_succ_cons]
      simp
    · exact q
  have hsub : ∀ r ∈ [r0] ++ L.take (L.length - 1), r ∈ L := fun r hr => List.mem_of_mem_take (hm r hr)
  refine bad_of h.n6 h.iT (dat_dpar (by simp; omega) fun r hr => h.rl r (hsub r hr)) fun ht => ?_
  obtain ⟨g1, g2, g3, _⟩ := TD_par.mp ht
  have := h.few (A := L.take (L.length - 1)) (fun e => by
    have := congrArg List.length e
    rw [List.length_take] at this
    simp at this
    omega) (fun r hr => h.lin r (List.mem_of_mem_take hr)) (cov_mem g3 hm)
  rw [List.length_take] at this
  omega
end
end DX
set_option pp.maxSteps 1500
namespace DC
open PySem L2 DL
def topPt (n : Nat) (T : Tb) (m x : Nat) : Bool := m.testBit x && decide (mask n (T x) &&& m = 0)
def topM (n : Nat) (T : Tb) (m : Nat) : Nat := mask n (topPt n T m)
theorem bit_lt {n m y : Nat} (hm : m < 2 ^ n) (h : m.testBit y = true) : y < n := by
  refine Classical.byContradiction fun q => ?_
  rw [Nat.testBit_lt_two_pow (Nat.lt_of_lt_of_le hm (Nat.pow_le_pow_right (by decide) (by omega)))] at h
  cases h
theorem dis_iff {n m x : Nat} {T : Tb} (hm : m < 2 ^ n) : mask n (T x) &&& m = 0 ↔ ∀ y, y < n → T x y = true → m.testBit y = false := by
  constructor
  · intro h y hy hT
    have h1 : (mask n (T x) &&& m).testBit y = false := by rw [h, Nat.zero_testBit]
    rw [Nat.testBit_and, mask_bit, hT, decide_eq_true hy] at h1
    simpa using h1
  · intro h
    refine Nat.eq_of_testBit_eq fun y => ?_
    rw [Nat.testBit_and, mask_bit, Nat.zero_testBit]
    by_cases hy : y < n
    · cases e : T x y with
      | false => simp
      | true => rw [h y hy e]; simp
    · simp [hy]
theorem top_bit {n m x : Nat} {T : Tb} (hm : m < 2 ^ n) : (topM n T m).testBit x = true ↔ m.testBit x = true ∧ ∀ y, y < n → T x y = true → m.testBit y = false := by
  unfold topM topPt
  rw [mask_bit, Bool.and_eq_true, Bool.and_eq_true, decide_eq_true_iff, decide_eq_true_iff, dis_iff hm]
  constructor
  · exact fun h => h.2
  · exact fun h => ⟨bit_lt hm h.1, h⟩
theorem lowG_iff {n m : Nat} {T : Tb} (hm : m < 2 ^ n) : lowG n T m = true ↔ ∀ x, m.testBit x = true → ∀ y, y < n → T y x = true → m.testBit y = true := by
  unfold lowG
  rw [List.all_eq_true]
  constructor
  · intro h x hx y hy hT
    have := List.all_eq_true.mp (h x (mem_ptN.mpr ⟨bit_lt hm hx, hx⟩)) y (List.mem_range.mpr hy)
    rw [hT] at this
    simpa using this
  · intro h x hx
    refine List.all_eq_true.mpr fun y hy => ?_
    cases e : T y x with
    | false => rfl
    | true => rw [h x (mem_ptN.mp hx).2 y (List.mem_range.mp hy) e]; rfl
theorem top_over {n : Nat} {T : Tb} (tT : Tr n T) (iT : Irr n T) {m : Nat} (hm : m < 2 ^ n) {x : Nat} (hx : m.testBit x = true) : ∃ y, y < n ∧ (topM n T m).testBit y = true ∧ (x = y ∨ T x y = true) := by
  have hxn := bit_lt hm hx
  have hne : ((List.range n).filter fun y => m.testBit y && (decide (x = y) || T x y)) ≠ [] := List.ne_nil_of_mem (a := x) (List.mem_filter.mpr ⟨List.mem_range.mpr hxn, by simp [hx]⟩)
  obtain ⟨y, hy, hmin⟩ := minimal_ex (n := n) (T := flp T) (tr_flp tT) (irr_flp iT) (fun z hz => List.mem_range.mp (List.mem_filter.mp hz).1) hne
  have ⟨h1, h2⟩ := List.mem_filter.mp hy
  have hyn := List.mem_range.mp h1
  rw [Bool.and_eq_true, Bool.or_eq_true, decide_eq_true_iff] at h2
  refine ⟨y, hyn, (top_bit hm).mpr ⟨h2.1, fun z hz hT => ?_⟩, h2.2⟩
  cases e : m.testBit z with
  | false => rfl
  | true =>
    have hxz : T x z = true := by
      rcases h2.2 with rfl | q
      · exact hT
      · exact tT x y z hxn hyn hz q hT
    have := hmin z (List.mem_filter.mpr ⟨List.mem_range.mpr hz, by rw [e, hxz]; simp⟩)
    unfold flp at this
    rw [hT] at this
    cases this
end DC
set_option pp.maxSteps 1500
namespace DC
open PySem L2 DL
structure LowL (n : Nat) (T : Tb) (L : List Nat) : Prop where
  mem : ∀ m, m ∈ L ↔ m < 2 ^ n ∧ lowG n T m = true
  nd : L.Nodup
  so : L.Pairwise fun a b => szN n a < szN n b ∨ (szN n a = szN n b ∧ a ≤ b)
theorem sub_bits {a b : Nat} : a &&& b = a ↔ ∀ x, a.testBit x = true → b.testBit x = true := by
  constructor
  · intro h x hx
    rw [← h, Nat.testBit_and, Bool.and_eq_true] at hx
    exact hx.2
  · intro h
    refine Nat.eq_of_testBit_eq fun x => ?_
    rw [Nat.testBit_and]
    cases e : a.testBit x with
    | false => rfl
    | true => rw [h x e]; rfl
theorem szN_lt {n a b : Nat} (ha : a < 2 ^ n) (hb : b < 2 ^ n) (h : a &&& b = a) (hne : a ≠ b) : szN n a < szN n b := by
  have h1 := sub_bits.mp h
  obtain ⟨x, hx, hxa⟩ : ∃ x, b.testBit x = true ∧ a.testBit x = false := by
    refine Classical.byContradiction fun q => hne (Nat.eq_of_testBit_eq fun x => ?_)
    cases ea : a.testBit x with
    | true => rw [h1 x ea]
    | false =>
      cases eb : b.testBit x with
      | false => rfl
      | true => exact absurd ⟨x, eb, ea⟩ q
  have nx : x ∉ ptN n a := fun q => by
    rw [(mem_ptN.mp q).2] at hxa
    cases hxa
  have nd : (x :: ptN n a).Nodup := List.nodup_cons.mpr ⟨nx, List.nodup_range.filter _⟩
  have := nd.length_le_of_subset (l₂ := ptN n b) fun y hy => by
    rcases List.mem_cons.mp hy with rfl | hy
    · exact mem_ptN.mpr ⟨bit_lt hb hx, hx⟩
    · exact mem_ptN.mpr ⟨(mem_ptN.mp hy).1, h1 y (mem_ptN.mp hy).2⟩
  unfold szN
  rw [List.length_cons] at this
  omega
section
variable {n : Nat} {T : Tb} {L : List Nat} (tT : Tr n T) (iT : Irr n T) (H : LowL n T L)
include H
theorem lo_lt {i : Nat} (hi : i < L.length) : itL L i < 2 ^ n := ((H.mem _).mp (itL_mem hi)).1
theorem lo_low {i : Nat} (hi : i < L.length) : lowG n T (itL L i) = true := ((H.mem _).mp (itL_mem hi)).2
theorem lo_at {m : Nat} (hm : m < 2 ^ n) (lm : lowG n T m = true) : ∃ i, i < L.length ∧ itL L i = m := itL_ex ((H.mem m).mpr ⟨hm, lm⟩)
include tT iT
end
end DC
namespace DC
open PySem L2 DL
def vecI (m : Nat) (c : Nat → Int) : List D := vec m fun k => .a (.int (c k))
theorem isFL_vecI {m : Nat} {c : Nat → Int} : isFL (vecI m c) = true := isFL_vec fun _ _ => rfl
theorem vecI_len {m : Nat} {c : Nat → Int} : (vecI m c).length = m := vec_len
theorem vecI_take {m s : Nat} {c : Nat → Int} (h : s ≤ m) : (vecI m c).take s = vecI s c := by
  unfold vecI vec
  rw [← List.map_take, List.take_range, Nat.min_eq_left h]
theorem vecI_ext {m : Nat} {c c' : Nat → Int} (h : ∀ k, k < m → c k = c' k) : vecI m c = vecI m c' := vec_ext fun k hk => by rw [h k hk]
theorem vecI_ix {k : Kd} (hk : k = .lst ∨ k = .tup) {m i : Nat} {c : Nat → Int} {P : D → Prop} (hi : i < m) : SO (gIx (.n k false (vecI m c)) (.a (.int (i : Int)))) P = P (.a (.int (c i))) := by
  rcases hk with rfl | rfl
  · exact so_ixLF hi rfl
  · exact so_ixTF hi rfl
theorem cut_to {m s : Nat} {c : Nat → Int} (h : s ≤ m) : cutD (vecI m c) none (some (s : Int)) = vecI s c := by
  unfold cutD
  have e1 : HT.sIx (vecI m c).length 0 none = 0 := rfl
  have e2 : HT.sIx (vecI m c).length (vecI m c).length (some (s : Int)) = s := by
    rw [HT.sIx_nat, vecI_len]
    omega
  rw [e1, e2, Nat.sub_zero, List.drop_zero, vecI_take h]
def tz (c : Nat → Int) : Nat → Nat
  | 0 => 0
  | m + 1 => if c m = 0 then tz c m else m + 1
theorem tz_le {c : Nat → Int} : ∀ m, tz c m ≤ m
  | 0 => Nat.le_refl _
  | m + 1 => by
    unfold tz
    split
    · exact Nat.le_succ_of_le (tz_le m)
    · exact Nat.le_refl _
theorem trimmed_eq {m : Nat} {c : Nat → Int} (hm : m ≤ 1000) : F_trimmed [.n .lst false (vecI m c)] = .rt (.n .tup false (vecI (tz c m) c)) none := by
  apply wf_eq
  unfold F_trimmed
  rw [wf_fn]
  unfold B_trimmed
  have fl : ∀ m, isFL (vecI m c) = true := fun _ => isFL_vecI
  refine wp_step fun K hK => ?_
  simp [fl, vecI_len]
  apply hK
  clear hK K
  refine wp_cutK (fun ρ => ρ = [some (.n .lst false (vecI m c)), some (.a (.int ((tz c m : Nat) : Int)))]) (fun K hK => ?_) ?_
  · rw [wx]
    refine wp_while (fun s ρ => ρ = [some (.n .lst false (vecI m c)), some (.a (.int (s : Int)))] ∧ s ≤ m ∧ tz c s = tz c m) ?_ 100000 m _ (by omega) ⟨rfl, Nat.le_refl _, rfl⟩
    rintro s ρ ⟨rfl, hs, hz⟩
    have t1 : dAndT (dB (dOp2 gGt (dVar 1) (dC (.int 0)))) (dB (dOp2 gEq (dOp2 gIx (dVar 0) (dOp2 gSub (dVar 1) (dC (.int 1)))) (dC (.int 0)))) [some (.n .lst false (vecI m c)), some (.a (.int (s : Int)))] = .ok (decide (0 < s ∧ c (s - 1) = 0)) [some (.n .lst false (vecI m c)), some (.a (.int (s : Int)))] := by
      apply out_eq
      cases s with
      | zero => simp
      | succ s =>
        have e : ((s + 1 : Nat) : Int) - 1 = (s : Int) := by omega
        have e2 : (0 : Int) < ((s + 1 : Nat) : Int) := by omega
        generalize hss : ((s + 1 : Nat) : Int) = ss at *
        simp [e, e2, fl, vecI_ix (k := .lst) (.inl rfl) (show s < m by omega)]
    rw [t1, wo_ok]
    cases s with
    | zero =>
      rw [if_neg (by simp)]
      exact hK _ (by rw [← hz]; rfl)
    | succ s =>
      have e : ((s + 1 : Nat) : Int) - 1 = (s : Int) := by omega
      by_cases h0 : c s = 0
      · rw [if_pos (by simp [h0])]
        generalize hss : ((s + 1 : Nat) : Int) = ss at *
        simp [e]
        refine ⟨s, by omega, rfl, by omega, ?_⟩
        rw [← hz]
        exact (show tz c (s + 1) = tz c s by
          show (if c s = 0 then _ else _) = _
          rw [if_pos h0]).symm
      · rw [if_neg (by simp [h0])]
        have : tz c (s + 1) = s + 1 := by
          show (if c s = 0 then _ else _) = _
          rw [if_neg h0]
        exact hK _ (by rw [← hz, this])
  · intro ρ h
    subst h
    simp [gSl, fl, cut_to (tz_le m), ioOf]
theorem p5 {k : Nat} (hk : k ≤ 5) : (5 : Int) ^ k ≤ 3125 := by
  have : k = 0 ∨ k = 1 ∨ k = 2 ∨ k = 3 ∨ k = 4 ∨ k = 5 := by omega
  rcases this with rfl | rfl | rfl | rfl | rfl | rfl <;> decide
theorem vecI_succ {m : Nat} {c : Nat → Int} : vecI m c ++ [.a (.int (c m))] = vecI (m + 1) c := vec_succ.symm
theorem frzL_vecI {m : Nat} {c : Nat → Int} : frzL (vecI m c) = vecI m c := frzL_rows fun _ _ => rfl
end DC
namespace DC
open PySem L2 DL
def chkI (r : FR) (v : Int) : Bool := match r with
  | .rt (.a (.int c)) none => c == v
  | _ => false
theorem chkI_eq {r : FR} {v : Int} (h : chkI r v = true) : r = .rt (.a (.int v)) none := by
  unfold chkI at h
  split at h
  · rename_i c
    have : c = v := by simpa using h
    rw [this]
  · cases h
def chs : Nat → Nat → Int
  | _, 0 => 1
  | 0, _ + 1 => 0
  | k + 1, j + 1 => chs k j + chs k (j + 1)
end DC
set_option pp.maxSteps 1500
namespace DC
open PySem L2 DL
def rowsK (n k : Nat) : List (List Nat) := match n with
  | 0 => [[]]
  | n + 1 => (rowsK n k).flatMap fun r => (List.range k).map fun v => r ++ [v + 1]
theorem row_ext {n : Nat} {r s : List Nat} (hr : r.length = n) (hs : s.length = n) (h : ∀ x, x < n → itL r x = itL s x) : r = s := by
  refine List.ext_getElem? fun x => ?_
  by_cases q : x < n
  · have := h x q
    unfold itL at this
    rw [List.getD_eq_getElem?_getD, List.getD_eq_getElem?_getD, List.getElem?_eq_getElem (by omega), List.getElem?_eq_getElem (by omega)] at this
    rw [List.getElem?_eq_getElem (by omega), List.getElem?_eq_getElem (by omega)]
    exact congrArg some this
  · rw [List.getElem?_eq_none (by omega), List.getElem?_eq_none (by omega)]
theorem itL_ini {r : List Nat} {v x : Nat} (hx : x < r.length) : itL (r ++ [v]) x = itL r x := by
  unfold itL
  rw [List.getD_eq_getElem?_getD, List.getD_eq_getElem?_getD, List.getElem?_append_left hx]
theorem itL_end {r : List Nat} {v : Nat} : itL (r ++ [v]) r.length = v := by
  unfold itL
  rw [List.getD_eq_getElem?_getD, List.getElem?_append_right (Nat.le_refl _), Nat.sub_self]
  rfl
theorem mem_rowsK {k : Nat} : ∀ {n : Nat} {r : List Nat}, r ∈ rowsK n k ↔ r.length = n ∧ ∀ x, x < n → 1 ≤ itL r x ∧ itL r x ≤ k
  | 0, r => by
    unfold rowsK
    rw [List.mem_singleton]
    constructor
    · rintro rfl
      exact ⟨rfl, fun x hx => by omega⟩
    · exact fun h => List.eq_nil_of_length_eq_zero h.1
  | n + 1, r => by
    unfold rowsK
    rw [List.mem_flatMap]
    constructor
    · rintro ⟨s, hs, hr⟩
      obtain ⟨v, hv, rfl⟩ := List.mem_map.mp hr
      have hv := List.mem_range.mp hv
      obtain ⟨h1, h2⟩ := mem_rowsK.mp hs
      refine ⟨by simp [h1], fun x hx => ?_⟩
      by_cases q : x < n
      · rw [itL_ini (by omega)]
        exact h2 x q
      · have : x = s.length := by omega
        rw [this, itL_end]
        omega
    · rintro ⟨h1, h2⟩
      have e := take_snoc (h := r) (k := n) (by omega)
      rw [List.take_of_length_le (by omega)] at e
      refine ⟨r.take n, mem_rowsK.mpr ⟨by rw [List.length_take]; omega, fun x hx => ?_⟩, List.mem_map.mpr ⟨itL r n - 1, List.mem_range.mpr ?_, ?_⟩⟩
      · have := h2 x (by omega)
        rw [e, itL_ini (by rw [List.length_take]; omega)] at this
        exact this
      · have := h2 n (by omega)
        omega
      · have := h2 n (by omega)
        have e3 : itL r n - 1 + 1 = itL r n := by omega
        show r.take n ++ [itL r n - 1 + 1] = r
        rw [e3, ← e]
theorem rowsK_nd {k : Nat} : ∀ {n : Nat}, (rowsK n k).Nodup
  | 0 => by simp [rowsK]
  | n + 1 => by
    unfold rowsK
    refine nodup_fm rowsK_nd (fun r _ => ?_) fun r _ s _ z hr hs => ?_
    · exact nodup_mp (fun a b e => by have := (snoc_inj e).2; omega) List.nodup_range
    · obtain ⟨x, _, rfl⟩ := List.mem_map.mp hr
      obtain ⟨y, _, e⟩ := List.mem_map.mp hs
      exact (snoc_inj e).1.symm
structure OkR (n : Nat) (T : Tb) (st on : Bool) (k A : Nat) (r : List Nat) : Prop where
  ms : ∀ x, x < n → (A.testBit x = true ↔ itL r x ≤ k)
  lo : lowG n T A = true
  go : ∀ x y, x < n → y < n → A.testBit x = true → A.testBit y = true → T x y = true → itL r x ≤ itL r y ∧ (st = true → itL r x < itL r y)
  on : on = true → ∀ v, 1 ≤ v → v ≤ k → ∃ x, x < n ∧ itL r x = v
structure Stp (n : Nat) (T : Tb) (st on : Bool) (B A : Nat) : Prop where
  lb : lowG n T B = true
  la : lowG n T A = true
  su : ∀ x, B.testBit x = true → A.testBit x = true
  ne : on = true → B ≠ A
  an : st = true → ∀ x y, x < n → y < n → A.testBit x = true → A.testBit y = true → B.testBit x = false → B.testBit y = false → T x y = false
open Classical in
noncomputable def okRs (n : Nat) (T : Tb) (st on : Bool) (k A : Nat) : List (List Nat) := (rowsK n (k + 1)).filter fun r => decide (OkR n T st on k A r)
open Classical in
noncomputable def stpB (n : Nat) (T : Tb) (st on : Bool) (B A : Nat) : Bool := decide (Stp n T st on B A)
theorem stpB_iff {n : Nat} {T : Tb} {st on : Bool} {B A : Nat} : stpB n T st on B A = true ↔ Stp n T st on B A := by
  classical
  unfold stpB
  rw [decide_eq_true_iff]
noncomputable def Cr (n : Nat) (T : Tb) (st on : Bool) (k A : Nat) : Int := ((okRs n T st on k A).length : Nat)
theorem mem_okRs {n : Nat} {T : Tb} {st on : Bool} {k A : Nat} {r : List Nat} : r ∈ okRs n T st on k A ↔ r ∈ rowsK n (k + 1) ∧ OkR n T st on k A r := by
  classical
  unfold okRs
  rw [List.mem_filter, decide_eq_true_iff]
theorem okRs_nd {n : Nat} {T : Tb} {st on : Bool} {k A : Nat} : (okRs n T st on k A).Nodup := rowsK_nd.filter _
def lftR (n k A : Nat) (r : List Nat) : List Nat := (List.range n).map fun x => if A.testBit x = true then itL r x else k + 2
def minR (n k : Nat) (r : List Nat) : List Nat := (List.range n).map fun x => min (itL r x) (k + 1)
theorem itL_mk {n x : Nat} {f : Nat → Nat} (hx : x < n) : itL ((List.range n).map f) x = f x := by
  unfold itL
  rw [List.getD_eq_getElem?_getD, List.getElem?_map, List.getElem?_range hx]
  rfl
theorem Cr_zero {n : Nat} {T : Tb} {st on : Bool} {A : Nat} (hA : A < 2 ^ n) : Cr n T st on 0 A = if A = 0 then 1 else 0 := by
  unfold Cr
  by_cases e : A = 0
  · subst e
    rw [if_pos rfl]
    have : (okRs n T st on 0 0).Perm [(List.range n).map fun _ => 1] := (List.perm_ext_iff_of_nodup okRs_nd (List.pairwise_singleton _ _)).mpr fun r => by
      rw [mem_okRs, List.mem_singleton, mem_rowsK]
      constructor
      · rintro ⟨⟨h1, h2⟩, h3⟩
        refine row_ext h1 (by simp) fun x hx => ?_
        rw [itL_mk hx]
        have := h2 x hx
        omega
      · rintro rfl
        refine ⟨⟨by simp, fun x hx => by rw [itL_mk hx]; omega⟩, ⟨fun x hx => ?_, ?_, fun x y hx hy h => ?_, fun _ v h1 h2 => by omega⟩⟩
        · rw [Nat.zero_testBit, itL_mk hx]
          simp
        · exact (lowG_iff hA).mpr fun x hx => by rw [Nat.zero_testBit] at hx; cases hx
        · rw [Nat.zero_testBit] at h
          cases h
    rw [this.length_eq]
    rfl
  · rw [if_neg e]
    have : okRs n T st on 0 A = [] := List.eq_nil_iff_forall_not_mem.mpr fun r hr => by
      obtain ⟨h1, h2⟩ := mem_okRs.mp hr
      have h3 := (mem_rowsK.mp h1).2
      refine e (Nat.eq_of_testBit_eq fun x => ?_)
      rw [Nat.zero_testBit]
      cases q : A.testBit x with
      | false => rfl
      | true =>
        have hx := bit_lt hA q
        have := (h2.ms x hx).mp q
        have := h3 x hx
        omega
    rw [this]
    rfl
theorem Cr_step {n : Nat} {T : Tb} {st on : Bool} {k A : Nat} (hA : A < 2 ^ n) : Cr n T st on (k + 1) A = Sm (2 ^ n) fun B => if stpB n T st on B A = true then Cr n T st on k B else 0 := by
  have hflat : (Sm (2 ^ n) fun B => if stpB n T st on B A = true then Cr n T st on k B else 0) = (((List.range (2 ^ n)).flatMap fun B => if stpB n T st on B A = true then okRs n T st on k B else []).length : Nat) := by
    rw [← ls_one, ls_flatMap, ← ls_range]
    refine ls_congr fun B _ => ?_
    cases stpB n T st on B A with
    | false => rfl
    | true => rw [if_pos rfl, if_pos rfl, ls_one]; rfl
  rw [hflat]
  generalize hX : ((List.range (2 ^ n)).flatMap fun B => if stpB n T st on B A = true then okRs n T st on k B else []) = X
  have mX : ∀ r, r ∈ X ↔ ∃ B, B < 2 ^ n ∧ Stp n T st on B A ∧ r ∈ okRs n T st on k B := fun r => by
    rw [← hX, List.mem_flatMap]
    constructor
    · rintro ⟨B, hB, hr⟩
      cases e : stpB n T st on B A with
      | false => rw [e] at hr; cases hr
      | true =>
        rw [e, if_pos rfl] at hr
        exact ⟨B, List.mem_range.mp hB, stpB_iff.mp e, hr⟩
    · rintro ⟨B, hB, hs, hr⟩
      have e : stpB n T st on B A = true := stpB_iff.mpr hs
      exact ⟨B, List.mem_range.mpr hB, by rw [e, if_pos rfl]; exact hr⟩
  have ndX : X.Nodup := by
    rw [← hX]
    refine nodup_fm List.nodup_range (fun B _ => ?_) fun B hB B' hB' r hr hr' => ?_
    · split
      · exact okRs_nd
      · exact List.nodup_nil
    · have h1 : r ∈ okRs n T st on k B := by
        split at hr
        · exact hr
        · cases hr
      have h2 : r ∈ okRs n T st on k B' := by
        split at hr'
        · exact hr'
        · cases hr'
      have m1 := (mem_okRs.mp h1).2.ms
      have m2 := (mem_okRs.mp h2).2.ms
      have hB := List.mem_range.mp hB
      have hB' := List.mem_range.mp hB'
      refine Nat.eq_of_testBit_eq fun x => ?_
      by_cases hx : x < n
      · rw [Bool.eq_iff_iff, m1 x hx, m2 x hx]
      · have z : ∀ C, C < 2 ^ n → C.testBit x = false := fun C hC => by
          cases e : C.testBit x with
          | false => rfl
          | true => exact absurd (bit_lt hC e) hx
        rw [z B hB, z B' hB']
  have hin : ∀ r, r ∈ X → ∀ x, x < n → (A.testBit x = false → itL r x = k + 1) ∧ 1 ≤ itL r x ∧ itL r x ≤ k + 1 := fun r hr x hx => by
    obtain ⟨B, hB, hs, ho⟩ := (mX r).mp hr
    obtain ⟨h1, h2⟩ := mem_okRs.mp ho
    have h3 := (mem_rowsK.mp h1).2 x hx
    refine ⟨fun hf => ?_, h3⟩
    have : B.testBit x = false := by
      cases e : B.testBit x with
      | false => rfl
      | true => rw [hs.su x e] at hf; cases hf
    have h4 := h2.ms x hx
    rw [this] at h4
    have : ¬ itL r x ≤ k := fun q => by cases h4.mpr q
    omega
  have hp : (okRs n T st on (k + 1) A).Perm (X.map (lftR n k A)) := by
    refine (List.perm_ext_iff_of_nodup okRs_nd (nodup_mpL (fun r hr s hs e => ?_) ndX)).mpr fun r => ?_
    · obtain ⟨B, _, _, ho⟩ := (mX r).mp hr
      obtain ⟨B', _, _, ho'⟩ := (mX s).mp hs
      refine row_ext (mem_rowsK.mp (mem_okRs.mp ho).1).1 (mem_rowsK.mp (mem_okRs.mp ho').1).1 fun x hx => ?_
      have e2 : itL (lftR n k A r) x = itL (lftR n k A s) x := by rw [e]
      unfold lftR at e2
      rw [itL_mk hx, itL_mk hx] at e2
      cases q : A.testBit x with
      | true => rw [q, if_pos rfl, if_pos rfl] at e2; exact e2
      | false => rw [(hin r hr x hx).1 q, (hin s hs x hx).1 q]
    · rw [List.mem_map]
      constructor
      · intro hr
        obtain ⟨h1, h2⟩ := mem_okRs.mp hr
        obtain ⟨hlen, hval⟩ := mem_rowsK.mp h1
        have hmb : ∀ x, (mask n fun x => decide (itL r x ≤ k)).testBit x = true ↔ x < n ∧ itL r x ≤ k := fun x => by
          rw [mask_bit, Bool.and_eq_true, decide_eq_true_iff, decide_eq_true_iff]
        have hBA : ∀ x, (mask n fun x => decide (itL r x ≤ k)).testBit x = true → A.testBit x = true := fun x hx => by
          have ⟨h3, h4⟩ := (hmb x).mp hx
          exact (h2.ms x h3).mpr (by omega)
        refine ⟨minR n k r, (mX _).mpr ⟨mask n fun x => decide (itL r x ≤ k), mask_lt _ _, ?_, mem_okRs.mpr ⟨mem_rowsK.mpr ⟨by simp [minR], fun x hx => ?_⟩, ?_⟩⟩, ?_⟩
        · have hlb : lowG n T (mask n fun x => decide (itL r x ≤ k)) = true := (lowG_iff (mask_lt _ _)).mpr fun x hx y hy hT => by
            have ⟨h3, h4⟩ := (hmb x).mp hx
            have hxA := hBA x hx
            have hyA := (lowG_iff hA).mp h2.lo x hxA y hy hT
            have := (h2.go y x hy h3 hyA hxA hT).1
            exact (hmb y).mpr ⟨hy, by omega⟩
          refine ⟨hlb, h2.lo, hBA, fun ho e => ?_, fun hs x y hx hy hxA hyA hxB hyB => ?_⟩
          · obtain ⟨x, hx, hv⟩ := h2.on ho (k + 1) (by omega) (Nat.le_refl _)
            have hxA := (h2.ms x hx).mpr (by omega)
            rw [← e] at hxA
            have := ((hmb x).mp hxA).2
            omega
          · cases q : T x y with
            | false => rfl
            | true =>
              have h3 := (h2.go x y hx hy hxA hyA q).2 hs
              have h4 : ¬ itL r x ≤ k := fun h => by rw [(hmb x).mpr ⟨hx, h⟩] at hxB; cases hxB
              have := (h2.ms y hy).mp hyA
              omega
        · unfold minR
          rw [itL_mk hx]
          have := hval x hx
          omega
        · have hmi : ∀ x, x < n → itL (minR n k r) x = min (itL r x) (k + 1) := fun x hx => by
            unfold minR
            rw [itL_mk hx]
          refine ⟨fun x hx => ?_, (lowG_iff (mask_lt _ _)).mpr fun x hx y hy hT => ?_, fun x y hx hy hxB hyB hT => ?_, fun ho v h3 h4 => ?_⟩
          · rw [hmb, hmi x hx]
            constructor
            · rintro ⟨_, h⟩; omega
            · intro h; exact ⟨hx, by omega⟩
          · have ⟨h3, h4⟩ := (hmb x).mp hx
            have hxA := hBA x hx
            have hyA := (lowG_iff hA).mp h2.lo x hxA y hy hT
            have := (h2.go y x hy h3 hyA hxA hT).1
            exact (hmb y).mpr ⟨hy, by omega⟩
          · have h3 := ((hmb x).mp hxB).2
            have h4 := ((hmb y).mp hyB).2
            have h5 := h2.go x y hx hy (hBA x hxB) (hBA y hyB) hT
            rw [hmi x hx, hmi y hy]
            exact ⟨by have := h5.1; omega, fun hs => by have := h5.2 hs; omega⟩
          · obtain ⟨x, hx, hv⟩ := h2.on ho v h3 (by omega)
            exact ⟨x, hx, by rw [hmi x hx]; omega⟩
        · refine row_ext (by simp [lftR]) hlen fun x hx => ?_
          unfold lftR
          rw [itL_mk hx]
          unfold minR
          rw [itL_mk hx]
          have h3 := h2.ms x hx
          have h4 := hval x hx
          cases q : A.testBit x with
          | true =>
            have := h3.mp q
            rw [if_pos rfl]
            omega
          | false =>
            have : ¬ itL r x ≤ k + 1 := fun h => by rw [h3.mpr h] at q; cases q
            rw [if_neg (by decide)]
            omega
      · rintro ⟨s, hs, rfl⟩
        obtain ⟨B, hB, hst, ho⟩ := (mX s).mp hs
        obtain ⟨h1, h2⟩ := mem_okRs.mp ho
        have hli : ∀ x, x < n → itL (lftR n k A s) x = if A.testBit x = true then itL s x else k + 2 := fun x hx => by
          unfold lftR
          rw [itL_mk hx]
        have hval := (mem_rowsK.mp h1).2
        refine mem_okRs.mpr ⟨mem_rowsK.mpr ⟨by simp [lftR], fun x hx => ?_⟩, fun x hx => ?_, hst.la, fun x y hx hy hxA hyA hT => ?_, fun hon v h3 h4 => ?_⟩
        · rw [hli x hx]
          have := hval x hx
          split <;> omega
        · rw [hli x hx]
          have := hval x hx
          cases q : A.testBit x with
          | true => rw [if_pos rfl]; simp; omega
          | false => rw [if_neg (by decide)]; simp
        · rw [hli x hx, hli y hy, hxA, hyA, if_pos rfl, if_pos rfl]
          have vx := hval x hx
          have vy := hval y hy
          have mx := h2.ms x hx
          have my := h2.ms y hy
          cases qy : B.testBit y with
          | true =>
            have qx := (lowG_iff hB).mp hst.lb y qy x hx hT
            exact h2.go x y hx hy qx qy hT
          | false =>
            have ny : ¬ itL s y ≤ k := fun h => by rw [my.mpr h] at qy; cases qy
            refine ⟨by omega, fun hs => ?_⟩
            cases qx : B.testBit x with
            | true =>
              have := mx.mp qx
              omega
            | false =>
              have := hst.an hs x y hx hy hxA hyA qx qy
              rw [this] at hT
              cases hT
        · by_cases hv : v ≤ k
          · obtain ⟨x, hx, e⟩ := h2.on hon v h3 hv
            have hxB : B.testBit x = true := (h2.ms x hx).mpr (by omega)
            exact ⟨x, hx, by rw [hli x hx, hst.su x hxB, if_pos rfl, e]⟩
          · have hne := hst.ne hon
            obtain ⟨x, hxA, hxB⟩ : ∃ x, A.testBit x = true ∧ B.testBit x = false := by
              refine Classical.byContradiction fun q => hne (Nat.eq_of_testBit_eq fun x => ?_)
              cases ea : A.testBit x with
              | true =>
                cases eb : B.testBit x with
                | true => rfl
                | false => exact absurd ⟨x, ea, eb⟩ q
              | false =>
                cases eb : B.testBit x with
                | false => rfl
                | true => rw [hst.su x eb] at ea; cases ea
            have hx := bit_lt hA hxA
            have h5 : ¬ itL s x ≤ k := fun h => by rw [(h2.ms x hx).mpr h] at hxB; cases hxB
            have := hval x hx
            exact ⟨x, hx, by rw [hli x hx, hxA, if_pos rfl]; omega⟩
  unfold Cr
  rw [hp.length_eq, List.length_map]
end DC
set_option pp.maxSteps 1500
namespace DC
open PySem L2 DL
theorem Sm_shift {f : Nat → Int} : ∀ {n : Nat}, Sm (n + 1) f = f 0 + Sm n fun j => f (j + 1)
  | 0 => by rw [Sm_succ, Sm_zero, Sm_zero]; omega
  | n + 1 => by rw [Sm_succ, Sm_shift, Sm_succ]; omega
theorem Sm_neg {f : Nat → Int} {n : Nat} : Sm n (fun i => -f i) = -Sm n f := by
  have := Sm_mulL (a := -1) (f := f) (n := n)
  have e : (fun i => (-1 : Int) * f i) = fun i => -f i := funext fun i => by omega
  rw [e] at this
  omega
theorem weights {u v a : Nat → Int} {N : Nat} (h0 : v 0 = u 0) (hs : ∀ j, v (j + 1) = u j + u (j + 1)) (hN : a (N + 1) = 0) : (Sm (N + 1) fun j => v j * a j) = (Sm (N + 1) fun j => u j * a j) + Sm (N + 1) fun j => u j * a (j + 1) := by
  rw [Sm_shift (f := fun j => v j * a j), Sm_shift (f := fun j => u j * a j), Sm_succ (f := fun j => u j * a (j + 1)), hN, h0]
  have e : (Sm N fun j => v (j + 1) * a (j + 1)) = (Sm N fun j => u (j + 1) * a (j + 1)) + Sm N fun j => u j * a (j + 1) := by
    rw [← Sm_add]
    refine Sm_congr fun j _ => ?_
    rw [hs, Int.add_mul, Int.add_comm]
  rw [e]
  omega
def stpJ (f : Nat → Int) : Nat → Int
  | 0 => 1
  | j + 1 => f (j + 1) - stpJ f j
def ngc : Nat → Nat → Int
  | 0 => fun j => if j = 0 then 1 else 0
  | m + 1 => stpJ (ngc m)
section
variable {n : Nat} {T : Tb} {st : Bool}
theorem stp_split {A B : Nat} (hB : B < 2 ^ n) (hA : A < 2 ^ n) (lA : lowG n T A = true) : Stp n T st false B A ↔ B = A ∨ Stp n T st true B A := by
  constructor
  · intro h
    by_cases e : B = A
    · exact .inl e
    · exact .inr ⟨h.lb, h.la, h.su, fun _ => e, h.an⟩
  · rintro (rfl | h)
    · exact ⟨lA, lA, fun _ h => h, (fun h => Bool.noConfusion h), fun _ x y _ _ h1 _ h2 _ => by rw [h1] at h2; cases h2⟩
    · exact ⟨h.lb, h.la, h.su, (fun h => Bool.noConfusion h), h.an⟩
theorem sum_split {A : Nat} (hA : A < 2 ^ n) (lA : lowG n T A = true) (g : Nat → Int) : (Sm (2 ^ n) fun B => if stpB n T st false B A = true then g B else 0) = g A + Sm (2 ^ n) fun B => if stpB n T st true B A = true then g B else 0 := by
  have e1 : (Sm (2 ^ n) fun B => if B = A then g B else 0) = g A := by
    rw [Sm_pick hA fun B _ hne => by rw [if_neg hne]]
    rw [if_pos rfl]
  rw [← e1, ← Sm_add]
  refine Sm_congr fun B hB => ?_
  have h := stp_split (st := st) hB hA lA
  rw [← stpB_iff, ← stpB_iff] at h
  by_cases e : B = A
  · subst e
    have h1 : stpB n T st false B B = true := h.mpr (.inl rfl)
    have h2 : ¬ stpB n T st true B B = true := fun q => (stpB_iff.mp q).ne rfl rfl
    rw [if_pos h1, if_pos rfl, if_neg h2]
    omega
  · rw [if_neg e]
    by_cases q : stpB n T st true B A = true
    · rw [if_pos q, if_pos (h.mpr (.inr q))]
      omega
    · rw [if_neg q, if_neg fun q2 => (h.mp q2).elim e q]
      omega
theorem Cr_nonneg {on : Bool} {k A : Nat} : 0 ≤ Cr n T st on k A := Int.natCast_nonneg _
theorem Cr_big : ∀ {k A : Nat}, A < 2 ^ n → szN n A < k → Cr n T st true k A = 0
  | 0, A, _, h => by omega
  | k + 1, A, hA, h => by
    rw [Cr_step hA]
    refine Sm_zeros fun B hB => ?_
    by_cases q : stpB n T st true B A = true
    · rw [if_pos q]
      have s := stpB_iff.mp q
      have := szN_lt hB hA (sub_bits.mpr s.su) (s.ne rfl)
      exact Cr_big hB (by omega)
    · rw [if_neg q]
theorem szN_le {A : Nat} : szN n A ≤ n := ptN_len
theorem Cr_plain (hn : n ≤ 5) : ∀ {k A : Nat}, A < 2 ^ n → lowG n T A = true → Cr n T st false k A = Sm 6 fun j => chs k j * Cr n T st true j A
  | 0, A, hA, lA => by
    rw [Cr_zero hA, Sm_pick (c := 0) (by decide) fun j hj h0 => ?_]
    · have : chs 0 0 = 1 := rfl
      rw [this, Cr_zero hA]
      omega
    · obtain ⟨i, rfl⟩ : ∃ i, j = i + 1 := ⟨j - 1, by omega⟩
      have : chs 0 (i + 1) = 0 := rfl
      rw [this]
      omega
  | k + 1, A, hA, lA => by
    rw [Cr_step hA, sum_split hA lA, Cr_plain hn hA lA]
    have e : (Sm (2 ^ n) fun B => if stpB n T st true B A = true then Cr n T st false k B else 0) = Sm 6 fun j => chs k j * Cr n T st true (j + 1) A := by
      have e1 : ∀ j, Cr n T st true (j + 1) A = Sm (2 ^ n) fun B => if stpB n T st true B A = true then Cr n T st true j B else 0 := fun j => Cr_step hA
      have e2 : (Sm (2 ^ n) fun B => if stpB n T st true B A = true then Cr n T st false k B else 0) = Sm (2 ^ n) fun B => Sm 6 fun j => chs k j * (if stpB n T st true B A = true then Cr n T st true j B else 0) := Sm_congr fun B hB => by
        by_cases q : stpB n T st true B A = true
        · rw [if_pos q, Cr_plain hn hB (stpB_iff.mp q).lb]
          exact Sm_congr fun j _ => by rw [if_pos q]
        · rw [if_neg q]
          exact (Sm_zeros fun j _ => by rw [if_neg q]; omega).symm
      rw [e2, Sm_comm]
      refine Sm_congr fun j _ => ?_
      rw [e1, Sm_mulL]
    rw [e]
    have hz : Cr n T st true 6 A = 0 := Cr_big hA (by have := szN_le (n := n) (A := A); omega)
    exact (weights (u := chs k) (v := chs (k + 1)) (a := fun j => Cr n T st true j A) (N := 5) (by cases k <;> rfl) (fun j => rfl) hz).symm
noncomputable def Hm (n : Nat) (T : Tb) (m A : Nat) : Int := Sm 6 fun j => ngc m j * Cr n T false true j A
def sgN (n A : Nat) : Int := (-1) ^ szN n A
noncomputable def Sg (n : Nat) (T : Tb) (m A : Nat) : Int := sgN n A * Cr n T true false m A
theorem Hm_rec (hn : n ≤ 5) {m A : Nat} (hA : A < 2 ^ n) (lA : lowG n T A = true) : (Sm (2 ^ n) fun B => if stpB n T false false B A = true then Hm n T (m + 1) B else 0) = Hm n T m A := by
  rw [sum_split hA lA]
  have e1 : ∀ j, Cr n T false true (j + 1) A = Sm (2 ^ n) fun B => if stpB n T false true B A = true then Cr n T false true j B else 0 := fun j => Cr_step hA
  have e : (Sm (2 ^ n) fun B => if stpB n T false true B A = true then Hm n T (m + 1) B else 0) = Sm 6 fun j => ngc (m + 1) j * Cr n T false true (j + 1) A := by
    have e2 : (Sm (2 ^ n) fun B => if stpB n T false true B A = true then Hm n T (m + 1) B else 0) = Sm (2 ^ n) fun B => Sm 6 fun j => ngc (m + 1) j * (if stpB n T false true B A = true then Cr n T false true j B else 0) := Sm_congr fun B hB => by
      by_cases q : stpB n T false true B A = true
      · rw [if_pos q]
        exact Sm_congr fun j _ => by rw [if_pos q]
      · rw [if_neg q]
        exact (Sm_zeros fun j _ => by rw [if_neg q]; omega).symm
    rw [e2, Sm_comm]
    refine Sm_congr fun j _ => ?_
    rw [e1, Sm_mulL]
  rw [e]
  have hz : Cr n T false true 6 A = 0 := Cr_big hA (by have := szN_le (n := n) (A := A); omega)
  have hs : ∀ j, ngc m (j + 1) = ngc (m + 1) j + ngc (m + 1) (j + 1) := fun j => by
    show ngc m (j + 1) = ngc (m + 1) j + (ngc m (j + 1) - ngc (m + 1) j)
    omega
  exact (weights (u := ngc (m + 1)) (v := ngc m) (a := fun j => Cr n T false true j A) (N := 5) (by cases m <;> rfl) hs hz).symm
theorem xor_bit {B t x : Nat} : (B ^^^ 2 ^ t).testBit x = (B.testBit x != decide (t = x)) := by
  rw [Nat.testBit_xor, Nat.testBit_two_pow]
theorem xor_lt {B t : Nat} (hB : B < 2 ^ n) (ht : t < n) : B ^^^ 2 ^ t < 2 ^ n := Nat.xor_lt_two_pow hB (Nat.pow_lt_pow_right (by decide) ht)
theorem xor_two {B t : Nat} : (B ^^^ 2 ^ t) ^^^ 2 ^ t = B := by
  rw [Nat.xor_assoc, Nat.xor_self, Nat.xor_zero]
theorem sz_up {B t : Nat} (hB : B < 2 ^ n) (ht : t < n) (h : B.testBit t = false) : szN n (B ^^^ 2 ^ t) = szN n B + 1 := by
  have hp : (ptN n (B ^^^ 2 ^ t)).Perm (t :: ptN n B) := by
    have nt : t ∉ ptN n B := fun q => by
      rw [(mem_ptN.mp q).2] at h
      cases h
    have nd1 : (ptN n (B ^^^ 2 ^ t)).Nodup := List.nodup_range.filter _
    have nd2 : (ptN n B).Nodup := List.nodup_range.filter _
    refine (List.perm_ext_iff_of_nodup nd1 (List.nodup_cons.mpr ⟨nt, nd2⟩)).mpr fun x => ?_
    rw [List.mem_cons, mem_ptN, mem_ptN, xor_bit]
    by_cases e : t = x
    · subst e
      simp [ht, h]
    · have e' : ¬ x = t := fun q => e q.symm
      simp [e, e']
  unfold szN
  rw [hp.length_eq, List.length_cons]
theorem sg_xor {B t : Nat} (hB : B < 2 ^ n) (ht : t < n) : sgN n (B ^^^ 2 ^ t) = -sgN n B := by
  unfold sgN
  cases h : B.testBit t with
  | false =>
    rw [sz_up hB ht h, Int.pow_succ]
    omega
  | true =>
    have h2 : (B ^^^ 2 ^ t).testBit t = false := by rw [xor_bit, h]; simp
    have := sz_up (xor_lt hB ht) ht h2
    rw [xor_two] at this
    rw [this, Int.pow_succ]
    omega
theorem invol {t : Nat} (ht : t < n) {f : Nat → Int} (h : ∀ B, B < 2 ^ n → f (B ^^^ 2 ^ t) = -f B) : Sm (2 ^ n) f = 0 := by
  have hp : ((List.range (2 ^ n)).map (· ^^^ 2 ^ t)).Perm (List.range (2 ^ n)) := by
    refine (List.perm_ext_iff_of_nodup (nodup_mpL (fun a _ b _ e => ?_) List.nodup_range) List.nodup_range).mpr fun x => ?_
    · have := congrArg (· ^^^ 2 ^ t) e
      simp only [xor_two] at this
      exact this
    · rw [List.mem_map, List.mem_range]
      constructor
      · rintro ⟨B, hB, rfl⟩
        exact xor_lt (List.mem_range.mp hB) ht
      · intro hx
        exact ⟨x ^^^ 2 ^ t, List.mem_range.mpr (xor_lt hx ht), xor_two⟩
  have h1 := ls_perm (g := f) hp
  rw [ls_map, ls_range] at h1
  have h2 : (Sm (2 ^ n) fun a => f (a ^^^ 2 ^ t)) = -Sm (2 ^ n) f := by
    rw [← Sm_neg]
    exact Sm_congr fun B hB => h B hB
  rw [h2, ls_range] at h1
  omega
end
section
variable {n : Nat} {T : Tb} (tT : Tr n T) (iT : Irr n T)
include tT iT
theorem between {A C : Nat} (hA : A < 2 ^ n) (hC : C < 2 ^ n) (lA : lowG n T A = true) : (Sm (2 ^ n) fun B => if stpB n T false false B A = true ∧ stpB n T true false C B = true then sgN n B else 0) = if C = A then sgN n A else 0 := by
  by_cases e : C = A
  · subst e
    rw [if_pos rfl, Sm_pick hA fun B hB hne => ?_]
    · have h1 : stpB n T false false C C = true := stpB_iff.mpr ⟨lA, lA, fun _ h => h, (fun h => Bool.noConfusion h), (fun h => Bool.noConfusion h)⟩
      have h2 : stpB n T true false C C = true := stpB_iff.mpr ⟨lA, lA, fun _ h => h, (fun h => Bool.noConfusion h), fun _ x y _ _ h1 _ h2 _ => by rw [h1] at h2; cases h2⟩
      rw [if_pos ⟨h1, h2⟩]
    · refine if_neg fun ⟨h1, h2⟩ => hne ?_
      have s1 := (stpB_iff.mp h1).su
      have s2 := (stpB_iff.mp h2).su
      exact sub_anti (sub_bits.mpr s1) (sub_bits.mpr s2)
  · rw [if_neg e]
    by_cases hs : lowG n T C = true ∧ ∀ x, C.testBit x = true → A.testBit x = true
    · obtain ⟨lC, hCA⟩ := hs
      have hne : ((List.range n).filter fun x => A.testBit x && !C.testBit x) ≠ [] := fun q => by
        refine e (sub_anti (sub_bits.mpr hCA) (sub_bits.mpr fun x hx => ?_))
        cases qx : C.testBit x with
        | true => rfl
        | false =>
          have : x ∈ ((List.range n).filter fun x => A.testBit x && !C.testBit x) := List.mem_filter.mpr ⟨List.mem_range.mpr (bit_lt hA hx), by rw [hx, qx]; rfl⟩
          rw [q] at this
          cases this
      obtain ⟨t, htm, hmin⟩ := minimal_ex (n := n) (T := T) tT iT (fun z hz => List.mem_range.mp (List.mem_filter.mp hz).1) hne
      have ⟨ht', htb⟩ := List.mem_filter.mp htm
      have ht := List.mem_range.mp ht'
      rw [Bool.and_eq_true, Bool.not_eq_true'] at htb
      obtain ⟨htA, htC⟩ := htb
      have hmin' : ∀ y, y < n → A.testBit y = true → T y t = true → C.testBit y = true := fun y hy hyA hT => by
        cases q : C.testBit y with
        | true => rfl
        | false =>
          have := hmin y (List.mem_filter.mpr ⟨List.mem_range.mpr hy, by rw [hyA, q]; rfl⟩)
          rw [this] at hT
          cases hT
      have key : ∀ B, B < 2 ^ n → (stpB n T false false B A = true ∧ stpB n T true false C B = true) → stpB n T false false (B ^^^ 2 ^ t) A = true ∧ stpB n T true false C (B ^^^ 2 ^ t) = true := fun B hB ⟨h1, h2⟩ => by
        have s1 := stpB_iff.mp h1
        have s2 := stpB_iff.mp h2
        have hbit : ∀ x, x ≠ t → (B ^^^ 2 ^ t).testBit x = B.testBit x := fun x hx => by
          have : ¬ t = x := fun q => hx q.symm
          rw [xor_bit]
          simp [this]
        have hbt : (B ^^^ 2 ^ t).testBit t = !B.testBit t := by
          rw [xor_bit]
          simp
        have hl : lowG n T (B ^^^ 2 ^ t) = true := (lowG_iff (xor_lt hB ht)).mpr fun x hx y hy hT => by
          by_cases ex : x = t
          · subst ex
            have hyx : y ≠ x := fun q => by
              subst q
              rw [iT y hy] at hT
              cases hT
            rw [hbit y hyx]
            exact s2.su y (hmin' y hy ((lowG_iff hA).mp lA x htA y hy hT) hT)
          · rw [hbit x ex] at hx
            have hyB := (lowG_iff hB).mp s1.lb x hx y hy hT
            by_cases ey : y = t
            · subst ey
              exfalso
              cases qx : C.testBit x with
              | true =>
                have := (lowG_iff hC).mp lC x qx y hy hT
                rw [htC] at this
                cases this
              | false =>
                have := s2.an rfl y x hy (bit_lt hB hx) hyB hx htC qx
                rw [this] at hT
                cases hT
            · rw [hbit y ey]
              exact hyB
        refine ⟨stpB_iff.mpr ⟨hl, lA, fun x hx => ?_, (fun h => Bool.noConfusion h), (fun h => Bool.noConfusion h)⟩, stpB_iff.mpr ⟨lC, hl, fun x hx => ?_, (fun h => Bool.noConfusion h), fun _ x y hx hy h3 h4 h5 h6 => ?_⟩⟩
        · by_cases ex : x = t
          · rw [ex]; exact htA
          · rw [hbit x ex] at hx
            exact s1.su x hx
        · by_cases ex : x = t
          · rw [ex, htC] at hx
            cases hx
          · rw [hbit x ex]
            exact s2.su x hx
        · cases hT : T x y with
          | false => rfl
          | true =>
            exfalso
            by_cases ex : x = t
            · subst ex
              by_cases ey : y = x
              · subst ey
                rw [iT y hy] at hT
                cases hT
              · rw [hbit y ey] at h4
                have hxB := (lowG_iff hB).mp s1.lb y h4 x hx hT
                rw [hbt, hxB] at h3
                cases h3
            · rw [hbit x ex] at h3
              by_cases ey : y = t
              · subst ey
                have := hmin' x hx (s1.su x h3) hT
                rw [h5] at this
                cases this
              · rw [hbit y ey] at h4
                have := s2.an rfl x y hx hy h3 h4 h5 h6
                rw [this] at hT
                cases hT
      refine invol ht fun B hB => ?_
      by_cases q : stpB n T false false B A = true ∧ stpB n T true false C B = true
      · rw [if_pos q, if_pos (key B hB q), sg_xor hB ht]
      · rw [if_neg q, if_neg fun q2 => q (by
          have := key _ (xor_lt hB ht) q2
          rwa [xor_two] at this)]
        omega
    · refine Sm_zeros fun B hB => if_neg fun ⟨h1, h2⟩ => hs ?_
      have s1 := stpB_iff.mp h1
      have s2 := stpB_iff.mp h2
      exact ⟨s2.lb, fun x hx => s1.su x (s2.su x hx)⟩
theorem Sg_rec {m A : Nat} (hA : A < 2 ^ n) (lA : lowG n T A = true) : (Sm (2 ^ n) fun B => if stpB n T false false B A = true then Sg n T (m + 1) B else 0) = Sg n T m A := by
  have e1 : (Sm (2 ^ n) fun B => if stpB n T false false B A = true then Sg n T (m + 1) B else 0) = Sm (2 ^ n) fun B => Sm (2 ^ n) fun C => Cr n T true false m C * (if stpB n T false false B A = true ∧ stpB n T true false C B = true then sgN n B else 0) := Sm_congr fun B hB => by
    by_cases q : stpB n T false false B A = true
    · rw [if_pos q]
      unfold Sg
      rw [Cr_step hB, ← Sm_mulL]
      refine Sm_congr fun C hC => ?_
      by_cases q2 : stpB n T true false C B = true
      · rw [if_pos q2, if_pos ⟨q, q2⟩, Int.mul_comm]
      · rw [if_neg q2, if_neg fun h => q2 h.2]
        omega
    · rw [if_neg q]
      exact (Sm_zeros fun C _ => by rw [if_neg fun h => q h.1]; omega).symm
  rw [e1, Sm_comm]
  have e2 : (Sm (2 ^ n) fun C => Sm (2 ^ n) fun B => Cr n T true false m C * (if stpB n T false false B A = true ∧ stpB n T true false C B = true then sgN n B else 0)) = Sm (2 ^ n) fun C => Cr n T true false m C * (if C = A then sgN n A else 0) := Sm_congr fun C hC => by
    rw [Sm_mulL, between tT iT hA hC lA]
  rw [e2, Sm_pick hA fun C _ hne => by rw [if_neg hne]; omega]
  rw [if_pos rfl]
  unfold Sg
  rw [Int.mul_comm]
theorem Hm_Sg (hn : n ≤ 5) : ∀ (m : Nat) {A : Nat}, A < 2 ^ n → lowG n T A = true → Hm n T m A = Sg n T m A
  | 0, A, hA, lA => by
    unfold Hm Sg
    rw [Sm_pick (c := 0) (by decide) fun j hj h0 => ?_]
    · have : ngc 0 0 = 1 := rfl
      rw [this, Cr_zero hA, Cr_zero hA]
      by_cases e : A = 0
      · subst e
        rw [if_pos rfl]
        have : szN n 0 = 0 := by
          unfold szN ptN
          simp
        unfold sgN
        rw [this]
        rfl
      · rw [if_neg e]
        omega
    · obtain ⟨i, rfl⟩ : ∃ i, j = i + 1 := ⟨j - 1, by omega⟩
      have : ngc 0 (i + 1) = 0 := rfl
      rw [this]
      omega
  | m + 1, A, hA, lA => by
    have key : ∀ s A, szN n A < s → A < 2 ^ n → lowG n T A = true → Hm n T (m + 1) A = Sg n T (m + 1) A := fun s => by
      induction s with
      | zero => intro A h; omega
      | succ s ih =>
        intro A hs hA lA
        have h1 := Hm_rec hn (m := m) hA lA
        have h2 := Sg_rec tT iT (m := m) hA lA
        rw [sum_split hA lA] at h1 h2
        have h3 : (Sm (2 ^ n) fun B => if stpB n T false true B A = true then Hm n T (m + 1) B else 0) = Sm (2 ^ n) fun B => if stpB n T false true B A = true then Sg n T (m + 1) B else 0 := Sm_congr fun B hB => by
          by_cases q : stpB n T false true B A = true
          · have s := stpB_iff.mp q
            have := szN_lt hB hA (sub_bits.mpr s.su) (s.ne rfl)
            rw [if_pos q, if_pos q, ih B (by omega) hB s.lb]
          · rw [if_neg q, if_neg q]
        have h4 := Hm_Sg hn m hA lA
        omega
    exact key (szN n A + 1) A (Nat.lt_succ_self _) hA lA
theorem Cr_top {st : Bool} : ∀ (s : Nat) {A : Nat}, szN n A = s → A < 2 ^ n → lowG n T A = true → 1 ≤ Cr n T st true s A
  | 0, A, hs, hA, lA => by
    have e : A = 0 := by
      refine Nat.eq_of_testBit_eq fun x => ?_
      rw [Nat.zero_testBit]
      cases q : A.testBit x with
      | false => rfl
      | true =>
        have : x ∈ ptN n A := mem_ptN.mpr ⟨bit_lt hA q, q⟩
        have h2 := List.length_pos_of_mem this
        unfold szN at hs
        omega
    rw [Cr_zero hA, if_pos e]
    omega
  | s + 1, A, hs, hA, lA => by
    obtain ⟨v, hv⟩ : ∃ v, v ∈ ptN n A := List.exists_mem_of_length_pos (by unfold szN at hs; omega)
    obtain ⟨t, ht, htop, _⟩ := top_over tT iT hA (mem_ptN.mp hv).2
    have ⟨t1, t2⟩ := (top_bit hA).mp htop
    have hB : A ^^^ 2 ^ t < 2 ^ n := xor_lt hA ht
    have hbt : (A ^^^ 2 ^ t).testBit t = false := by rw [xor_bit, t1]; simp
    have hbit : ∀ x, x ≠ t → (A ^^^ 2 ^ t).testBit x = A.testBit x := fun x hx => by
      have : ¬ t = x := fun q => hx q.symm
      rw [xor_bit]
      simp [this]
    have hsz := sz_up hB ht hbt
    rw [xor_two] at hsz
    have hne : ∀ x, (A ^^^ 2 ^ t).testBit x = true → x ≠ t := fun x hx e => by
      rw [e, hbt] at hx
      cases hx
    have lB : lowG n T (A ^^^ 2 ^ t) = true := (lowG_iff hB).mpr fun x hx y hy hT => by
      have hxt := hne x hx
      rw [hbit x hxt] at hx
      have hyA := (lowG_iff hA).mp lA x hx y hy hT
      have hyt : y ≠ t := fun e => by
        subst e
        rw [t2 x (bit_lt hA hx) hT] at hx
        cases hx
      rw [hbit y hyt]
      exact hyA
    have hsu : ∀ x, (A ^^^ 2 ^ t).testBit x = true → A.testBit x = true := fun x hx => by
      have := hne x hx
      rwa [hbit x this] at hx
    have hAne : (A ^^^ 2 ^ t) ≠ A := fun e => by
      rw [← e, hbt] at t1
      cases t1
    have heq : ∀ x, A.testBit x = true → (A ^^^ 2 ^ t).testBit x = false → x = t := fun x hxA hxB => Classical.byContradiction fun q => by
      rw [hbit x q, hxA] at hxB
      cases hxB
    have hst : Stp n T st true (A ^^^ 2 ^ t) A := ⟨lB, lA, hsu, fun _ => hAne, fun _ x y hx hy hxA hyA hxB hyB => by
      rw [heq x hxA hxB, heq y hyA hyB]
      exact iT t ht⟩
    rw [Cr_step hA]
    have h1 := Sm_one (n := 2 ^ n) (c := A ^^^ 2 ^ t) (f := fun B => if stpB n T st true B A = true then Cr n T st true s B else 0) hB fun B _ => by
      show 0 ≤ if stpB n T st true B A = true then Cr n T st true s B else 0
      split
      · exact Cr_nonneg
      · omega
    have h2 := Cr_top (st := st) s (A := A ^^^ 2 ^ t) (by omega) hB lB
    have h3 : (if stpB n T st true (A ^^^ 2 ^ t) A = true then Cr n T st true s (A ^^^ 2 ^ t) else 0) = Cr n T st true s (A ^^^ 2 ^ t) := if_pos (stpB_iff.mpr hst)
    rw [h3] at h1
    omega
end
end DC
set_option pp.maxSteps 1500
namespace DC
open PySem L2 DL
section
variable {n : Nat} {T : Tb} {L : List Nat} (tT : Tr n T) (iT : Irr n T) (H : LowL n T L)
include tT iT H
end
end DC
set_option pp.maxSteps 1500
namespace DC
open PySem L2 DL
theorem src_rg2 {ρ : DL.Env} {f g : DL.Env → Out D} {i m : Nat} (hf : f ρ = .ok (natD i) ρ) (hg : g ρ = .ok (natD m) ρ) (hi : i ≤ 100000) (hm : m ≤ 100000) : dRng2 f g ρ = .ok (((List.range (m - i)).map (i + ·)).map natD) ρ := by
  apply out_eq
  rw [w_Rng2]
  refine wo_of hf ?_
  show WO _ _ _
  refine wo_of hg ?_
  refine ⟨by omega, ?_⟩
  have e : (((m : Nat) : Int) - ((i : Nat) : Int)).toNat = m - i := by omega
  rw [e, intL_off, List.map_map]
  exact ⟨rfl, rfl⟩
theorem natD_ix {L : List Nat} {i : Nat} (hi : i < L.length) : (L.map natD)[i]? = some (natD (itL L i)) := by
  unfold itL
  rw [List.getElem?_map, List.getD_eq_getElem?_getD, List.getElem?_eq_getElem hi]
  rfl
end DC
set_option pp.maxSteps 1500
namespace DC
open PySem L2 DL
section
variable {n : Nat} {T : Tb}
end
end DC
set_option pp.maxSteps 1500
namespace DC
open PySem L2 DL
def difM (a b : Nat) : Nat := mask 5 fun x => a.testBit x && !b.testBit x
theorem dif_all : ((List.range 32).all fun a => (List.range 32).all fun b => decide (Builtin.bitAnd (a : Int) (Builtin.bitNot (b : Int)) = ((difM a b : Nat) : Int))) = true := by decide +kernel
theorem dif_eq {a b : Nat} (ha : a < 32) (hb : b < 32) : Builtin.bitAnd (a : Int) (Builtin.bitNot (b : Int)) = ((difM a b : Nat) : Int) := of_decide_eq_true (List.all_eq_true.mp (List.all_eq_true.mp dif_all a (List.mem_range.mpr ha)) b (List.mem_range.mpr hb))
theorem dif_bit {n a b x : Nat} (hn : n ≤ 5) (ha : a < 2 ^ n) : (difM a b).testBit x = (a.testBit x && !b.testBit x) := by
  unfold difM
  rw [mask_bit]
  cases e : a.testBit x with
  | false => simp
  | true =>
    have := bit_lt ha e
    rw [decide_eq_true (show x < 5 by omega), Bool.true_and]
theorem dif_lt {n a b : Nat} (hn : n ≤ 5) (ha : a < 2 ^ n) : difM a b < 2 ^ n := by
  refine Nat.lt_pow_two_of_testBit _ fun x hx => ?_
  rw [dif_bit hn ha]
  cases e : a.testBit x with
  | false => rfl
  | true => have := bit_lt ha e; omega
theorem dif_zero {n a b : Nat} (hn : n ≤ 5) (ha : a < 2 ^ n) : difM a b = 0 ↔ a &&& b = a := by
  rw [sub_bits]
  constructor
  · intro h x hx
    have := dif_bit (b := b) (x := x) hn ha
    rw [h, Nat.zero_testBit, hx] at this
    simpa using this.symm
  · intro h
    refine Nat.eq_of_testBit_eq fun x => ?_
    rw [dif_bit hn ha, Nat.zero_testBit]
    cases e : a.testBit x with
    | false => rfl
    | true => rw [h x e]; rfl
theorem anti_iff {n m : Nat} {T : Tb} (hm : m < 2 ^ n) : anti n T m = true ↔ ∀ x y, x < n → y < n → m.testBit x = true → m.testBit y = true → T x y = false := by
  unfold anti
  rw [List.all_eq_true]
  constructor
  · intro h x y hx hy hxm hym
    have := (dis_iff hm).mp (of_decide_eq_true (h x (mem_ptN.mpr ⟨hx, hxm⟩))) y hy
    cases e : T x y with
    | false => rfl
    | true => rw [this e] at hym; cases hym
  · intro h x hx
    have ⟨hxn, hxm⟩ := mem_ptN.mp hx
    refine decide_eq_true ((dis_iff hm).mpr fun y hy hT => ?_)
    cases e : m.testBit y with
    | false => rfl
    | true => rw [h x y hxn hy hxm e] at hT; cases hT
def stpO (n : Nat) (T : Tb) (L : List Nat) (st : Bool) (i j : Nat) : Bool := (!decide (itL L j = itL L i) && decide (difM (itL L i) (itL L j) = 0)) && (!st || anti n T (difM (itL L j) (itL L i)))
theorem stpO_iff {n : Nat} {T : Tb} {L : List Nat} {st : Bool} {i j : Nat} (hn : n ≤ 5) (H : LowL n T L) (hi : i < L.length) (hj : j < L.length) : stpO n T L st i j = stpB n T st true (itL L i) (itL L j) := by
  have h1 := lo_lt H hi
  have h2 := lo_lt H hj
  rw [Bool.eq_iff_iff, stpB_iff]
  unfold stpO
  rw [Bool.and_eq_true, Bool.and_eq_true, Bool.not_eq_true', decide_eq_false_iff_not, decide_eq_true_iff, Bool.or_eq_true, Bool.not_eq_true', dif_zero hn h1, anti_iff (dif_lt hn h2), sub_bits]
  constructor
  · rintro ⟨⟨a, b⟩, c⟩
    refine ⟨lo_low H hi, lo_low H hj, b, fun _ e => a e.symm, fun hs x y hx hy hxA hyA hxB hyB => ?_⟩
    rcases c with c | c
    · rw [hs] at c; cases c
    · exact c x y hx hy (by rw [dif_bit hn h2, hxA, hxB]; rfl) (by rw [dif_bit hn h2, hyA, hyB]; rfl)
  · intro s
    refine ⟨⟨fun e => s.ne rfl e.symm, s.su⟩, ?_⟩
    cases st with
    | false => exact .inl rfl
    | true =>
      refine .inr fun x y hx hy hx1 hy1 => ?_
      rw [dif_bit hn h2, Bool.and_eq_true, Bool.not_eq_true'] at hx1 hy1
      exact s.an rfl x y hx hy hx1.1 hy1.1 hx1.2 hy1.2
def rwO (n : Nat) (T : Tb) (L : List Nat) (st : Bool) (i : Nat) : List Nat := (List.range L.length).filter (stpO n T L st i)
def rwOD (o : Bool) (n : Nat) (T : Tb) (L : List Nat) (st : Bool) (m : Nat) : D := .n .lst o ((List.range m).map fun i => .n .lst false ((rwO n T L st i).map natD))
theorem isF_rwOD {n m : Nat} {T : Tb} {L : List Nat} {st : Bool} : isF (rwOD false n T L st m) = true := by
  unfold rwOD
  rw [isF_n, isFL_map fun i => by rw [isF_n, isFL_nat]; rfl]
  rfl
theorem frz_rwOD {o : Bool} {n m : Nat} {T : Tb} {L : List Nat} {st : Bool} : frz (rwOD o n T L st m) = rwOD false n T L st m := by
  unfold rwOD
  rw [frz_n, frzL_isFL]
  exact isFL_map fun i => by rw [isF_n, isFL_nat]; rfl
theorem nfan : ¬ ("is_antichain" : Str) = "n" ∧ ¬ ("is_antichain" : Str) = "above" := by decide +kernel
theorem antiE {n m i : Nat} {T : Tb} {b : Bool} {ρ : DL.Env} {fa : DL.Env → Out D} (h : ρ[i]? = some (some (ordT n T))) (ha : fa ρ = .ok (natD m) ρ) (hF : F_Order_is_antichain [.n (.ins "Order" ["n", "above"]) false [.a (.int (n : Int)), .n .tup false (vec n (mrow n T))], .a (.int (m : Int))] = .rt (.a (.bl b)) none) : dMeth "Order" "is_antichain" 1 F_Order_is_antichain (dVar i) (dACons fa dANil) ρ = .ok (.a (.bl b)) ρ := by
  unfold natD at ha
  apply out_eq
  simp [h, ha, isF_ordT, asIns_ord, hF, nfan]
theorem steps_eq {n : Nat} {T : Tb} {L : List Nat} {st : Bool} (hn : n ≤ 5) (H : LowL n T L) (hl : L.length ≤ 32) (hF : F_lower_sets [ordT n T] = .rt (.n .tup false (L.map natD)) none) : F_steps_between [ordT n T, .a (.bl st)] = .rt (rwOD false n T L st L.length) none := by
  have fT : isF (.n .tup false (L.map natD)) = true := by simp
  have h5 := two5 hn
  apply wf_eq
  unfold F_steps_between
  rw [wf_fn]
  unfold B_steps_between
  refine wp_step fun K hK => ?_
  rw [wx, p_Bind]
  refine wo_of (call1 (var_eq rfl isF_ordT) isF_ordT hF) ?_
  rw [p_Set]
  refine ⟨by simp, hK _ ?_⟩
  clear hK K
  refine wp_step fun K hK => ?_
  simp
  apply hK
  clear hK K
  have hlen : ∀ ρ : DL.Env, ρ[2]? = some (some (.n .tup false (L.map natD))) → dU gLen (dVar 2) ρ = .ok (natD L.length) ρ := fun ρ h => by
    have := lenT (xs := L.map natD) (var_eq h fT)
    rwa [List.length_map] at this
  refine wp_cutK (fun ρ => ∃ (v4 v5 v6 : Option D), ρ = [some (ordT n T), some (.a (.bl st)), some (.n .tup false (L.map natD)), some (rwOD false n T L st L.length), v4, v5, v6]) (fun K hK => ?_) ?_
  · rw [wx, p_Frz, p_For, src_lst (k := .tup) (.inr rfl) (l := L) (var_eq rfl fT) (by omega), wo_ok]
    refine wp_forK (fun t ρ => ∃ (v4 v5 v6 : Option D), ρ = [some (ordT n T), some (.a (.bl st)), some (.n .tup false (L.map natD)), some (rwOD true n T L st t), v4, v5, v6]) ⟨none, none, none, rfl⟩ ?_ ?_
    · intro i d ρ hd h J hJ
      obtain ⟨v4, v5, v6, hρ⟩ := h
      subst hρ
      obtain ⟨one, ho, rfl⟩ := natD_get hd
      have hi : i < L.length := (List.getElem?_eq_some_iff.mp ho).1
      have eo : one = itL L i := by
        unfold itL
        rw [List.getD_eq_getElem?_getD, ho]
        rfl
      rw [s_tg1]
      refine ⟨by simp, ?_⟩
      refine wp_step fun K hK => ?_
      simp
      apply hK
      clear hK K
      subst eo
      refine wp_cutK (fun ρ => ∃ (v6 : Option D), ρ = [some (ordT n T), some (.a (.bl st)), some (.n .tup false (L.map natD)), some (rwOD true n T L st i), some (natD (itL L i)), some (.n .lst false ((rwO n T L st i).map natD)), v6]) (fun K hK => ?_) ?_
      · rw [wx, p_Frz, p_For, src_rng2 (hlen _ rfl) (by omega), wo_ok]
        refine wp_forK (fun t ρ => ∃ (v6 : Option D), ρ = [some (ordT n T), some (.a (.bl st)), some (.n .tup false (L.map natD)), some (rwOD true n T L st i), some (natD (itL L i)), some (.n .lst true (((List.range t).filter (stpO n T L st i)).map natD)), v6]) ⟨_, rfl⟩ ?_ ?_
        · intro j d ρ hd h J2 hJ2
          obtain ⟨v6, hρ⟩ := h
          subst hρ
          obtain ⟨hj, rfl⟩ := vec_get' (f := natD) hd
          rw [s_tg1]
          refine ⟨by simp, ?_⟩
          have hil := lo_lt H hi
          have hjl := lo_lt H hj
          have hix : ∀ ρ : DL.Env, ρ[2]? = some (some (.n .tup false (L.map natD))) → ρ[6]? = some (some (natD j)) → dOp2 gIx (dVar 2) (dVar 6) ρ = .ok (natD (itL L j)) ρ := fun ρ h2 h6 => ixTP (var_eq h2 fT) (var_eq h6 rfl) (natD_ix hj) rfl
          have hdif : ∀ (ρ : DL.Env) (f g : DL.Env → Out D) (a b : Nat), f ρ = .ok (natD a) ρ → g ρ = .ok (natD b) ρ → a < 32 → b < 32 → dOp2 gAnd f (dU gInv g) ρ = .ok (natD (difM a b)) ρ := fun ρ f g a b hf hg ha hb => op2E hf (uE (d := .a (.int (Builtin.bitNot (b : Int)))) hg fun P => rfl) fun P => by
            show P (.a (.int (Builtin.bitAnd (a : Int) (Builtin.bitNot (b : Int))))) = _
            rw [dif_eq ha hb]
            rfl
          generalize hacc : (List.range j).filter (stpO n T L st i) = acc at *
          have hal : acc.length ≤ 32 := by
            rw [← hacc]
            have := List.length_filter_le (stpO n T L st i) (List.range j)
            rw [List.length_range] at this
            omega
          have hsucc : (List.range (j + 1)).filter (stpO n T L st i) = if stpO n T L st i j = true then acc ++ [j] else acc := by
            rw [List.range_succ, List.filter_append, hacc]
            cases e : stpO n T L st i j <;> simp [e]
          rw [hsucc] at hJ2
          have t1 : ∀ ρ : DL.Env, ρ[2]? = some (some (.n .tup false (L.map natD))) → ρ[6]? = some (some (natD j)) → ρ[4]? = some (some (natD (itL L i))) → dAndT (dB (dOp2 gNe (dOp2 gIx (dVar 2) (dVar 6)) (dVar 4))) (dB (dOp2 gEq (dOp2 gAnd (dVar 4) (dU gInv (dOp2 gIx (dVar 2) (dVar 6)))) (dC (.int 0)))) ρ = .ok (!decide (itL L j = itL L i) && decide (difM (itL L i) (itL L j) = 0)) ρ := fun ρ h2 h6 h4 => andE (neN (hix ρ h2 h6) (var_eq h4 rfl)) fun _ => eqN (b := 0) (hdif ρ _ _ _ _ (var_eq h4 rfl) (hix ρ h2 h6) (by omega) (by omega)) (cE (x := .int 0))
          have t2 : ∀ ρ : DL.Env, ρ[0]? = some (some (ordT n T)) → ρ[1]? = some (some (.a (.bl st))) → ρ[2]? = some (some (.n .tup false (L.map natD))) → ρ[6]? = some (some (natD j)) → ρ[4]? = some (some (natD (itL L i))) → dOrT (dNotT (dB (dVar 1))) (dB (dMeth "Order" "is_antichain" 1 F_Order_is_antichain (dVar 0) (dACons (dOp2 gAnd (dOp2 gIx (dVar 2) (dVar 6)) (dU gInv (dVar 4))) dANil))) ρ = .ok (!st || anti n T (difM (itL L j) (itL L i))) ρ := fun ρ h0 h1 h2 h6 h4 => orE (notE (bE (var_eq h1 rfl))) fun _ => bE (by
            have h9 := hdif ρ _ _ _ _ (hix ρ h2 h6) (var_eq h4 rfl) (by omega) (by omega)
            have han : F_Order_is_antichain [ordT n T, natD (difM (itL L j) (itL L i))] = .rt (.a (.bl (anti n T (difM (itL L j) (itL L i))))) none := antichain_eq (dif_lt hn hjl) (by omega)
            exact antiE h0 h9 han)
          rw [p_If]
          refine wo_ofB (t1 _ rfl rfl rfl) ?_
          cases e1 : (!decide (itL L j = itL L i) && decide (difM (itL L i) (itL L j) = 0)) with
          | false =>
            rw [if_neg (by decide), p_Next]
            refine hJ2 _ ⟨some (natD j), ?_⟩
            have : stpO n T L st i j = false := by unfold stpO; rw [e1]; rfl
            rw [this]
            rfl
          | true =>
            rw [if_pos rfl, p_If]
            refine wo_ofB (t2 _ rfl rfl rfl rfl rfl) ?_
            cases e2 : (!st || anti n T (difM (itL L j) (itL L i))) with
            | false =>
              rw [if_neg (by decide), p_Next]
              refine hJ2 _ ⟨some (natD j), ?_⟩
              have : stpO n T L st i j = false := by unfold stpO; rw [e1, e2]; rfl
              rw [this]
              rfl
            | true =>
              rw [if_pos rfl]
              have : stpO n T L st i j = true := by unfold stpO; rw [e1, e2]; rfl
              rw [this, if_pos rfl] at hJ2
              refine has_app (i := 5) (xs := acc.map natD) rfl (var_eq (d := natD j) rfl rfl) (by rw [List.length_map]; omega) (hJ2 _ ⟨some (natD j), ?_⟩)
              rw [List.map_append]
              rfl
        · intro ρ h
          obtain ⟨v6, hρ⟩ := h
          subst hρ
          rw [range_map_len2]
          show K (frzAt 5 _)
          rw [frzAt_some (d := .n .lst true (((List.range L.length).filter (stpO n T L st i)).map natD)) rfl, frz_n, frzL_natD]
          exact hK _ ⟨_, rfl⟩
      intro ρ h
      obtain ⟨v6, hρ⟩ := h
      subst hρ
      have fR : isF (.n .lst false ((rwO n T L st i).map natD)) = true := by simp
      refine has_app (i := 3) (xs := (List.range i).map fun i => .n .lst false ((rwO n T L st i).map natD)) rfl (var_eq rfl fR) (by rw [List.length_map, List.length_range]; omega) (hJ _ ⟨some (natD (itL L i)), some (.n .lst false ((rwO n T L st i).map natD)), v6, ?_⟩)
      unfold rwOD
      rw [List.range_succ, List.map_append]
      rfl
    · intro ρ h
      obtain ⟨v4, v5, v6, hρ⟩ := h
      subst hρ
      rw [List.length_map]
      show K (frzAt 3 _)
      rw [frzAt_some (d := rwOD true n T L st L.length) rfl, frz_rwOD]
      exact hK _ ⟨_, _, _, rfl⟩
  intro ρ h
  obtain ⟨v4, v5, v6, hρ⟩ := h
  subst hρ
  rw [p_Bind]
  exact wo_of (var_eq rfl isF_rwOD) ⟨rfl, rfl⟩
end DC
set_option pp.maxSteps 1500
namespace DC
open PySem L2 DL
def wv (n : Nat) (T : Tb) (L : List Nat) (st : Bool) : Nat → Nat → Int
  | 0 => fun j => if j = 0 then 1 else 0
  | t + 1 => fun j => Sm L.length fun i => if stpO n T L st i j = true then wv n T L st t i else 0
section
variable {n : Nat} {T : Tb} {L : List Nat} {st : Bool}
theorem lo_first (H : LowL n T L) : 0 < L.length ∧ itL L 0 = 0 := by
  obtain ⟨i, hi, e⟩ := lo_at H (m := 0) (Nat.two_pow_pos n) ((lowG_iff (Nat.two_pow_pos n)).mpr fun x hx => by rw [Nat.zero_testBit] at hx; cases hx)
  refine ⟨by omega, ?_⟩
  cases i with
  | zero => exact e
  | succ i =>
    have h0 : 0 < L.length := by omega
    have := List.pairwise_iff_getElem.mp H.so 0 (i + 1) h0 hi (by omega)
    have e1 : L[0] = itL L 0 := by unfold itL; rw [List.getD_eq_getElem?_getD, List.getElem?_eq_getElem h0]; rfl
    have e2 : L[i + 1] = itL L (i + 1) := by unfold itL; rw [List.getD_eq_getElem?_getD, List.getElem?_eq_getElem hi]; rfl
    rw [e1, e2, e] at this
    have hz : szN n 0 = 0 := by
      unfold szN ptN
      simp
    rw [hz] at this
    omega
theorem sz_full : szN n (2 ^ n - 1) = n := by
  unfold szN ptN
  rw [List.filter_eq_self.mpr fun x hx => by
    rw [Nat.testBit_two_pow_sub_one]
    simpa using hx, List.length_range]
theorem full_lt : 2 ^ n - 1 < 2 ^ n := by
  have := Nat.two_pow_pos n
  omega
theorem full_low : lowG n T (2 ^ n - 1) = true := (lowG_iff full_lt).mpr fun x _ y hy _ => by
  rw [Nat.testBit_two_pow_sub_one]
  simpa using hy
theorem full_sub {A : Nat} (hA : A < 2 ^ n) : A &&& (2 ^ n - 1) = A := sub_bits.mpr fun x hx => by
  rw [Nat.testBit_two_pow_sub_one]
  simpa using bit_lt hA hx
theorem lo_last (H : LowL n T L) : itL L (L.length - 1) = 2 ^ n - 1 := by
  obtain ⟨i, hi, e⟩ := lo_at H full_lt (full_low (T := T) (n := n))
  have h0 : L.length - 1 < L.length := by omega
  by_cases q : i = L.length - 1
  · rw [← q, e]
  · have := List.pairwise_iff_getElem.mp H.so i (L.length - 1) hi h0 (by omega)
    have e1 : L[i] = itL L i := by unfold itL; rw [List.getD_eq_getElem?_getD, List.getElem?_eq_getElem hi]; rfl
    have e2 : L[L.length - 1] = itL L (L.length - 1) := by unfold itL; rw [List.getD_eq_getElem?_getD, List.getElem?_eq_getElem h0]; rfl
    rw [e1, e2, e, sz_full] at this
    refine Classical.byContradiction fun hne => ?_
    have h3 := szN_lt (lo_lt H h0) full_lt (full_sub (lo_lt H h0)) hne
    rw [sz_full] at h3
    omega
theorem wv_eq (hn : n ≤ 5) (H : LowL n T L) : ∀ (t : Nat) {j : Nat}, j < L.length → wv n T L st t j = Cr n T st true t (itL L j)
  | 0, j, hj => by
    rw [Cr_zero (lo_lt H hj)]
    show (if j = 0 then (1 : Int) else 0) = _
    have ⟨h0, e0⟩ := lo_first H
    by_cases e : j = 0
    · subst e
      rw [if_pos rfl, if_pos e0]
    · rw [if_neg e, if_neg fun q => e (itL_inj H.nd hj h0 (by rw [q, e0]))]
  | t + 1, j, hj => by
    rw [Cr_step (lo_lt H hj)]
    show (Sm L.length fun i => if stpO n T L st i j = true then wv n T L st t i else 0) = _
    have e1 : (Sm (2 ^ n) fun B => if stpB n T st true B (itL L j) = true then Cr n T st true t B else 0) = ls ((List.range (2 ^ n)).filter (lowG n T)) fun B => if stpB n T st true B (itL L j) = true then Cr n T st true t B else 0 := by
      rw [ls_filter]
      refine Sm_congr fun B hB => ?_
      by_cases q : lowG n T B = true
      · rw [if_pos q]
      · rw [if_neg q, if_neg fun h => q (stpB_iff.mp h).lb]
    have hp : L.Perm ((List.range (2 ^ n)).filter (lowG n T)) := (List.perm_ext_iff_of_nodup H.nd (List.nodup_range.filter _)).mpr fun m => by
      rw [H.mem, List.mem_filter, List.mem_range]
    rw [e1, ← ls_perm hp]
    have e2 : L = (List.range L.length).map (itL L) := by
      refine List.ext_getElem? fun i => ?_
      rw [List.getElem?_map]
      by_cases h : i < L.length
      · rw [List.getElem?_range h, List.getElem?_eq_getElem h]
        unfold itL
        rw [Option.map_some, List.getD_eq_getElem?_getD, List.getElem?_eq_getElem h]
        rfl
      · rw [List.getElem?_eq_none (by omega), List.getElem?_eq_none (by simp; omega)]
        rfl
    have e3 : ls L (fun B => if stpB n T st true B (itL L j) = true then Cr n T st true t B else 0) = ls ((List.range L.length).map (itL L)) fun B => if stpB n T st true B (itL L j) = true then Cr n T st true t B else 0 := by
      rw [← e2]
    rw [e3, ls_map, ls_range]
    refine Sm_congr fun i hi => ?_
    rw [stpO_iff hn H hi hj, wv_eq hn H t hi]
end
theorem vecI_set {m j : Nat} {c : Nat → Int} {v : Int} : (vecI m c).set j (.a (.int v)) = vecI m fun x => if x = j then v else c x := by
  refine List.ext_getElem? fun i => ?_
  unfold vecI vec
  rw [List.getElem?_set, List.getElem?_map, List.getElem?_map, List.length_map, List.length_range]
  by_cases h : i < m
  · rw [List.getElem?_range h]
    by_cases e : j = i
    · subst e
      simp [h]
    · have e' : ¬ i = j := fun q => e q.symm
      simp [e, e']
  · rw [List.getElem?_eq_none (by simp; omega)]
    by_cases e : j = i
    · subst e
      simp [h]
    · simp [e]
theorem vecI_at {m j : Nat} {c : Nat → Int} (hj : j < m) : (vecI m c)[j]? = some (.a (.int (c j))) := by
  unfold vecI vec
  rw [List.getElem?_map, List.getElem?_range hj]
  rfl
theorem onto_eq {n : Nat} {T : Tb} {L : List Nat} {st : Bool} (tT : Tr n T) (iT : Irr n T) (hn : n ≤ 5) (H : LowL n T L) (hl : L.length ≤ 32) (hF : F_lower_sets [ordT n T] = .rt (.n .tup false (L.map natD)) none) : F_onto_counts [ordT n T, .a (.bl st)] = .rt (.n .tup false (vecI (n + 1) fun t => Cr n T st true t (2 ^ n - 1))) none := by
  have hst := steps_eq (st := st) hn H hl hF
  have h0 := (lo_first H).1
  generalize hw : wv n T L st = w
  have hws : ∀ t, w (t + 1) = fun j => Sm L.length fun i => if stpO n T L st i j = true then w t i else 0 := fun t => by rw [← hw]; rfl
  have hlast : ∀ t, w t (L.length - 1) = Cr n T st true t (2 ^ n - 1) := fun t => by
    rw [← hw, wv_eq hn H t (by omega), lo_last H]
  apply wf_eq
  unfold F_onto_counts
  rw [wf_fn]
  unfold B_onto_counts
  refine wp_step fun K hK => ?_
  rw [wx, p_Bind, w_Fz]
  refine wo_of (call2 (var_eq rfl isF_ordT) (var_eq (d := .a (.bl st)) rfl rfl) isF_ordT rfl hst) ?_
  rw [frz_rwOD, p_Set]
  refine ⟨by simp, hK _ ?_⟩
  clear hK K
  generalize hM : L.length = M at *
  have hlen : ∀ ρ : DL.Env, ρ[2]? = some (some (rwOD false n T L st M)) → dU gLen (dVar 2) ρ = .ok (natD M) ρ := fun ρ h => uE (var_eq h isF_rwOD) fun P => by
    unfold rwOD
    simp [natD]
  have hvf : ∀ c : Nat → Int, isF (.n .lst false (vecI M c)) = true := fun c => by rw [isF_n, isFL_vecI]; rfl
  refine wp_cutK (fun ρ => ρ = [some (ordT n T), some (.a (.bl st)), some (rwOD false n T L st M), some (.n .lst false (vecI M (w 0))), none, none, none, none, none]) (fun K hK => ?_) ?_
  · have hv : ∀ ρ : DL.Env, ρ = [some (ordT n T), some (.a (.bl st)), some (rwOD false n T L st M), none, none, none, none, none, none] → dLc [7] (dRng1 (dU gLen (dVar 2))) (tg1 7) dYes (dU gInt (dOp2 gEq (dVar 7) (dC (.int 0)))) ρ = .ok (.n .lst true (vecI M (w 0))) ρ := by
      rintro ρ rfl
      apply out_eq
      refine w_lcN (l := List.range M) (fun j => .a (.int (w 0 j))) (fun d h => by simp at h) (by simp) (src_rng2 (hlen _ rfl) (by omega)) (by simp; omega) (fun j hj => ?_) ⟨rfl, rfl⟩
      refine uE (eqNV (b := 0) (var_eq rfl rfl) (cE (x := .int 0))) fun P => ?_
      rw [← hw]
      show _ = P (.a (.int (if j = 0 then 1 else 0)))
      by_cases e : j = 0
      · rw [if_pos e, decide_eq_true e]
        rfl
      · rw [if_neg e, decide_eq_false e]
        rfl
    rw [wx, p_Frz, p_Bind]
    refine wo_of (hv _ rfl) ?_
    rw [p_Set]
    refine ⟨by simp, ?_⟩
    show K (frzAt 3 _)
    rw [frzAt_some (d := .n .lst true (vecI M (w 0))) rfl, frz_n, frzL_vecI]
    exact hK _ rfl
  intro ρ h
  subst h
  refine wp_step fun K hK => ?_
  simp
  apply hK
  clear hK K
  refine wp_cutK (fun ρ => ∃ (v5 v6 v7 v8 : Option D), ρ = [some (ordT n T), some (.a (.bl st)), some (rwOD false n T L st M), some (.n .lst false (vecI M (w (n + 1)))), some (.n .lst false (vecI (n + 1) fun t => Cr n T st true t (2 ^ n - 1))), v5, v6, v7, v8]) (fun K hK => ?_) ?_
  · have hsz : ∀ ρ : DL.Env, ρ[0]? = some (some (ordT n T)) → dOp2 gAdd (dMeth "Order" "size" 0 F_Order_size (dVar 0) dANil) (dC (.int 1)) ρ = .ok (natD (n + 1)) ρ := fun ρ h => op2E (sizeE h) (cE (x := .int 1)) fun P => by simp [natD]
    rw [wx, p_Frz, p_For, src_rng2 (hsz _ rfl) (by omega), wo_ok]
    refine wp_forK (fun t ρ => ∃ (v5 v6 v7 v8 : Option D), ρ = [some (ordT n T), some (.a (.bl st)), some (rwOD false n T L st M), some (.n .lst false (vecI M (w t))), some (.n .lst true (vecI t fun t => Cr n T st true t (2 ^ n - 1))), v5, v6, v7, v8]) ⟨none, none, none, none, rfl⟩ ?_ ?_
    · intro t d ρ hd h J hJ
      obtain ⟨v5, v6, v7, v8, hρ⟩ := h
      subst hρ
      obtain ⟨ht, rfl⟩ := vec_get' (f := natD) hd
      rw [s_tg1]
      refine ⟨by simp, ?_⟩
      have hlw : ∀ ρ : DL.Env, ρ[3]? = some (some (.n .lst false (vecI M (w t)))) → dOp2 gIx (dVar 3) (dU gNeg (dC (.int 1))) ρ = .ok (.a (.int (Cr n T st true t (2 ^ n - 1)))) ρ := fun ρ h3 => by
        obtain ⟨m, rfl⟩ : ∃ m, M = m + 1 := ⟨M - 1, by omega⟩
        have := hlast t
        rw [← this]
        refine op2E (b := .a (.int (-1))) (var_eq h3 (hvf _)) rfl fun P => ?_
        rw [← vecI_succ]
        exact gIx_last (.inl rfl) rfl
      refine wp_cutK (fun ρ => ∃ (v6 v7 v8 : Option D), ρ = [some (ordT n T), some (.a (.bl st)), some (rwOD false n T L st M), some (.n .lst false (vecI M (w t))), some (.n .lst true (vecI (t + 1) fun t => Cr n T st true t (2 ^ n - 1))), some (natD t), v6, v7, v8]) (fun K hK => ?_) ?_
      · rw [wx]
        refine has_app (i := 4) (xs := vecI t fun t => Cr n T st true t (2 ^ n - 1)) rfl (hlw _ rfl) (by rw [vecI_len]; omega) (hK _ ⟨v6, v7, v8, ?_⟩)
        rw [vecI_succ]
        rfl
      intro ρ h
      obtain ⟨v6, v7, v8, hρ⟩ := h
      subst hρ
      refine wp_cutK (fun ρ => ∃ (v7 v8 : Option D), ρ = [some (ordT n T), some (.a (.bl st)), some (rwOD false n T L st M), some (.n .lst false (vecI M (w t))), some (.n .lst true (vecI (t + 1) fun t => Cr n T st true t (2 ^ n - 1))), some (natD t), some (.n .lst true (vecI M fun _ => 0)), v7, v8]) (fun K hK => ?_) ?_
      · have hv : ∀ ρ : DL.Env, ρ[2]? = some (some (rwOD false n T L st M)) → ρ[5]? = some (some (natD t)) → dLc [5] (dIter (dVar 2)) (tg1 5) dYes (dC (.int 0)) ρ = .ok (.n .lst true (vecI M fun _ => 0)) ρ := fun ρ h2 h5 => by
          have hl5 : 5 < ρ.length := (List.getElem?_eq_some_iff.mp h5).1
          apply out_eq
          have hsrc : dIter (dVar 2) ρ = .ok ((List.range M).map fun i => .n .lst false ((rwO n T L st i).map natD)) ρ := by
            apply out_eq
            rw [w_Iter, var_eq h2 isF_rwOD, wo_ok]
            unfold rwOD
            have : isFL ((List.range M).map fun i => D.n .lst false ((rwO n T L st i).map natD)) = true := isFL_map fun i => by rw [isF_n, isFL_nat]; rfl
            simp [this]
            omega
          rw [w_lcA (f := dC (.int 0)) (fun _ => .a (.int 0)) (fun d h => by rw [h5] at h; cases h; rfl) hl5 hsrc (by simp; omega) (fun d _ => rfl), List.map_map]
          exact ⟨rfl, rfl⟩
        rw [wx, p_Bind]
        refine wo_of (hv _ rfl rfl) ?_
        rw [p_Set]
        exact ⟨by simp, hK _ ⟨_, _, rfl⟩⟩
      intro ρ h
      obtain ⟨v7, v8, hρ⟩ := h
      subst hρ
      refine wp_cutK (fun ρ => ∃ (v7 v8 : Option D), ρ = [some (ordT n T), some (.a (.bl st)), some (rwOD false n T L st M), some (.n .lst false (vecI M (w t))), some (.n .lst true (vecI (t + 1) fun t => Cr n T st true t (2 ^ n - 1))), some (natD t), some (.n .lst false (vecI M (w (t + 1)))), v7, v8]) (fun K hK => ?_) ?_
      · rw [wx, p_Frz, p_For, src_rng2 (hlen _ rfl) (by omega), wo_ok]
        refine wp_forK (fun a ρ => ∃ (v7 v8 : Option D), ρ = [some (ordT n T), some (.a (.bl st)), some (rwOD false n T L st M), some (.n .lst false (vecI M (w t))), some (.n .lst true (vecI (t + 1) fun t => Cr n T st true t (2 ^ n - 1))), some (natD t), some (.n .lst true (vecI M fun j => Sm a fun i => if stpO n T L st i j = true then w t i else 0)), v7, v8]) ⟨_, _, rfl⟩ ?_ ?_
        · intro a d ρ hd h J2 hJ2
          obtain ⟨v7, v8, hρ⟩ := h
          subst hρ
          obtain ⟨ha, rfl⟩ := vec_get' (f := natD) hd
          rw [s_tg1]
          refine ⟨by simp, ?_⟩
          generalize hba : (fun j => Sm a fun i => if stpO n T L st i j = true then w t i else 0) = base at *
          have hb2 : (fun j => Sm (a + 1) fun i => if stpO n T L st i j = true then w t i else 0) = fun j => base j + if stpO n T L st a j = true then w t a else 0 := by
            rw [← hba]
            funext j
            rw [Sm_succ]
          rw [hb2] at hJ2
          have hsrc : ∀ ρ : DL.Env, ρ[2]? = some (some (rwOD false n T L st M)) → ρ[7]? = some (some (natD a)) → dIter (dOp2 gIx (dVar 2) (dVar 7)) ρ = .ok ((rwO n T L st a).map natD) ρ := fun ρ h2 h7 => by
            have h1 : dOp2 gIx (dVar 2) (dVar 7) ρ = .ok (.n .lst false ((rwO n T L st a).map natD)) ρ := op2E (var_eq h2 isF_rwOD) (var_eq h7 rfl) fun P => ix_any (.inl rfl) (by rw [List.getElem?_map, List.getElem?_range ha]; rfl) (by rw [isF_n, isFL_nat]; rfl)
            have hll : (rwO n T L st a).length ≤ 32 := by
              unfold rwO
              have := List.length_filter_le (stpO n T L st a) (List.range L.length)
              rw [List.length_range] at this
              omega
            apply out_eq
            rw [w_Iter, h1, wo_ok]
            simp
            omega
          rw [p_For, hsrc _ rfl rfl, wo_ok]
          have hndR : (rwO n T L st a).Nodup := List.nodup_range.filter _
          have hRm : ∀ x, x ∈ rwO n T L st a ↔ x < M ∧ stpO n T L st a x = true := fun x => by
            unfold rwO
            rw [List.mem_filter, List.mem_range, hM]
          generalize rwO n T L st a = R at *
          refine wp_forK (fun b ρ => ∃ (v8 : Option D), ρ = [some (ordT n T), some (.a (.bl st)), some (rwOD false n T L st M), some (.n .lst false (vecI M (w t))), some (.n .lst true (vecI (t + 1) fun t => Cr n T st true t (2 ^ n - 1))), some (natD t), some (.n .lst true (vecI M fun j => base j + if j ∈ R.take b then w t a else 0)), some (natD a), v8]) ⟨v8, ?_⟩ ?_ ?_
          · have : (fun j => base j + if j ∈ R.take 0 then w t a else 0) = base := by
              funext j
              simp
            rw [this]
            rfl
          · intro b d ρ hd h J3 hJ3
            obtain ⟨v8, hρ⟩ := h
            subst hρ
            obtain ⟨x, hx, rfl⟩ := natD_get hd
            have hxm := (hRm x).mp (List.mem_of_getElem? hx)
            rw [s_tg1]
            refine ⟨by simp, ?_⟩
            have tk : R.take (b + 1) = R.take b ++ [x] := by rw [List.take_succ, hx]; rfl
            have hxn : x ∉ R.take b := fun q => by
              have hnd2 : (R.take (b + 1)).Nodup := hndR.sublist (List.take_sublist _ _)
              rw [tk] at hnd2
              exact (List.nodup_append.mp hnd2).2.2 _ q _ (by simp) rfl
            have hval : ∀ ρ : DL.Env, ρ[6]? = some (some (.n .lst true (vecI M fun j => base j + if j ∈ R.take b then w t a else 0))) → ρ[8]? = some (some (natD x)) → ρ[3]? = some (some (.n .lst false (vecI M (w t)))) → ρ[7]? = some (some (natD a)) → dOp2 gAdd (dIxV 6 (dVar 8)) (dOp2 gIx (dVar 3) (dVar 7)) ρ = .ok (.a (.int (base x + w t a))) ρ := fun ρ h6 h8 h3 h7 => by
              have g1 := ixvD h6 (var_eq (d := natD x) h8 rfl) (vecI_at (c := fun j => base j + if j ∈ R.take b then w t a else 0) hxm.1) rfl
              simp only [if_neg hxn, Int.add_zero] at g1
              have g2 : dOp2 gIx (dVar 3) (dVar 7) ρ = .ok (.a (.int (w t a))) ρ := op2E (var_eq h3 (hvf _)) (var_eq (d := natD a) h7 rfl) fun P => ix_any (.inl rfl) (vecI_at ha) rfl
              exact op2E g1 g2 fun P => o_add
            rw [p_Bind]
            refine wo_of (hval _ rfl rfl rfl rfl) ?_
            refine sub_ok (i := 6) (j := x) (xs := vecI M fun j => base j + if j ∈ R.take b then w t a else 0) rfl (var_eq rfl rfl) (by rw [vecI_len]; exact hxm.1) ?_
            rw [vecI_set]
            refine hJ3 _ ⟨some (natD x), ?_⟩
            have e : (fun y => if y = x then base x + w t a else base y + if y ∈ R.take b then w t a else 0) = fun j => base j + if j ∈ R.take (b + 1) then w t a else 0 := by
              funext y
              rw [tk]
              by_cases ey : y = x
              · subst ey
                simp
              · simp [ey]
            rw [e]
            rfl
          · intro ρ h
            obtain ⟨v8, hρ⟩ := h
            subst hρ
            rw [List.length_map, List.take_length]
            refine hJ2 _ ⟨some (natD a), v8, ?_⟩
            have e : (vecI M fun j => base j + if j ∈ R then w t a else 0) = vecI M fun j => base j + if stpO n T L st a j = true then w t a else 0 := vecI_ext fun j hj => by
              have := hRm j
              by_cases q : stpO n T L st a j = true
              · rw [if_pos q, if_pos (this.mpr ⟨hj, q⟩)]
              · rw [if_neg q, if_neg fun h => q (this.mp h).2]
            rw [e]
        · intro ρ h
          obtain ⟨v7, v8, hρ⟩ := h
          subst hρ
          rw [range_map_len2]
          show K (frzAt 6 _)
          have e6 : (vecI M fun j => Sm M fun i => if stpO n T L st i j = true then w t i else 0) = vecI M (w (t + 1)) := by rw [hws]
          rw [e6, frzAt_some (d := .n .lst true (vecI M (w (t + 1)))) rfl, frz_n, frzL_vecI]
          exact hK _ ⟨_, _, rfl⟩
      intro ρ h
      obtain ⟨v7, v8, hρ⟩ := h
      subst hρ
      rw [p_Bind]
      refine wo_of (var_eq rfl (hvf _)) ?_
      rw [p_Set]
      exact ⟨by simp, hJ _ ⟨_, _, _, _, rfl⟩⟩
    · intro ρ h
      obtain ⟨v5, v6, v7, v8, hρ⟩ := h
      subst hρ
      rw [range_map_len2]
      show K (frzAt 4 _)
      rw [frzAt_some (d := .n .lst true (vecI (n + 1) fun t => Cr n T st true t (2 ^ n - 1))) rfl, frz_n, frzL_vecI]
      exact hK _ ⟨_, _, _, _, rfl⟩
  intro ρ h
  obtain ⟨v5, v6, v7, v8, hρ⟩ := h
  subst hρ
  have htr := trimmed_eq (m := n + 1) (c := fun t => Cr n T st true t (2 ^ n - 1)) (by omega)
  have htz : tz (fun t => Cr n T st true t (2 ^ n - 1)) (n + 1) = n + 1 := by
    have h1 := Cr_top tT iT (st := st) n sz_full full_lt full_low
    show (if Cr n T st true n (2 ^ n - 1) = 0 then _ else _) = _
    rw [if_neg (by omega)]
  rw [htz] at htr
  rw [p_Bind]
  have fv : isF (.n .lst false (vecI (n + 1) fun t => Cr n T st true t (2 ^ n - 1))) = true := by rw [isF_n, isFL_vecI]; rfl
  exact wo_of (call1 (var_eq rfl fv) fv htr) ⟨rfl, rfl⟩
end DC
set_option pp.maxSteps 1500
namespace DC
open PySem L2 DL
theorem value_atG {L : Nat} {z : Int} {c b : Nat → Int} (hL : L ≤ 6) (hc : ∀ j, j < L → (c j).natAbs < 1000000) (hb : ∀ j : Nat, j < 6 → F_binomial [.a (.int z), .a (.int (j : Int))] = .rt (.a (.int (b j))) none ∧ (b j).natAbs < 1000000) : F_value_at [.n .tup false (vecI L c), .a (.int z)] = .rt (.a (.int (Sm L fun j => c j * b j))) none := by
  apply wf_eq
  unfold F_value_at
  rw [wf_fn]
  unfold B_value_at
  rw [p_Bind]
  have hif : isF (.n .tup false (vecI L c)) = true := by rw [isF_n, isFL_vecI]; rfl
  refine w_sumF (n := L) (fun _ => true) (fun j => c j * b j) (fun d h => by simp at h) (by simp) (src_rng (out_eq (by simp [hif, vecI_len])) (by omega)) (by omega) (fun j hj => rfl) (fun j hj _ => ?_) ?_
  · apply out_eq
    have := hb j (by omega)
    simp [hif, vecI_ix (k := .tup) (.inr rfl) hj, this.1, mulOk_b (hc j hj) this.2]
  · simp [ioOf]
theorem binP_all : ((List.range 5).all fun k => (List.range 6).all fun j => chkI (F_binomial [.a (.int (k : Int)), .a (.int (j : Int))]) (chs k j) && decide ((chs k j).natAbs < 1000000)) = true := by decide +kernel
theorem binN_all : ((List.range 5).all fun k => (List.range 6).all fun j => chkI (F_binomial [.a (.int (-(k : Int))), .a (.int (j : Int))]) (ngc k j) && decide ((ngc k j).natAbs < 1000000)) = true := by decide +kernel
theorem binP {k j : Nat} (hk : k < 5) (hj : j < 6) : F_binomial [.a (.int (k : Int)), .a (.int (j : Int))] = .rt (.a (.int (chs k j))) none ∧ (chs k j).natAbs < 1000000 := by
  have := List.all_eq_true.mp (List.all_eq_true.mp binP_all k (List.mem_range.mpr hk)) j (List.mem_range.mpr hj)
  rw [Bool.and_eq_true] at this
  exact ⟨chkI_eq this.1, by simpa using this.2⟩
theorem binN {k j : Nat} (hk : k < 5) (hj : j < 6) : F_binomial [.a (.int (-(k : Int))), .a (.int (j : Int))] = .rt (.a (.int (ngc k j))) none ∧ (ngc k j).natAbs < 1000000 := by
  have := List.all_eq_true.mp (List.all_eq_true.mp binN_all k (List.mem_range.mpr hk)) j (List.mem_range.mpr hj)
  rw [Bool.and_eq_true] at this
  exact ⟨chkI_eq this.1, by simpa using this.2⟩
theorem rowsK_len {k : Nat} : ∀ {n : Nat}, (rowsK n k).length = k ^ n
  | 0 => rfl
  | n + 1 => by
    have h : ∀ l : List (List Nat), (l.flatMap fun r => (List.range k).map fun v => r ++ [v + 1]).length = l.length * k := fun l => by
      induction l with
      | nil => simp
      | cons a l ih => rw [List.flatMap_cons, List.length_append, ih, List.length_map, List.length_range, List.length_cons, Nat.succ_mul, Nat.add_comm]
    unfold rowsK
    rw [h, rowsK_len, Nat.pow_succ]
theorem Cr_bound {n k A : Nat} {T : Tb} {st on : Bool} (hn : n ≤ 5) (hk : k ≤ 5) : (Cr n T st on k A).natAbs < 1000000 := by
  have key : ∀ n, n < 6 → ∀ k, k < 7 → k ^ n ≤ 7776 := by decide +kernel
  have h1 : (okRs n T st on k A).length ≤ (rowsK n (k + 1)).length := List.length_filter_le _ _
  rw [rowsK_len] at h1
  have := key n (by omega) (k + 1) (by omega)
  unfold Cr
  omega
theorem maps_eq {n k : Nat} {T : Tb} (hn : n ≤ 5) (hk : k ≤ 3) : F_law_maps [ordT n T, natD k] = .rt (rwsD false (rowsK n k)) none := by
  have hp : ∀ m, m ≤ 5 → k ^ m ≤ 243 := fun m hm => by
    have key : ∀ k, k < 4 → ∀ m, m < 6 → k ^ m ≤ 243 := by decide +kernel
    exact key k (by omega) m (by omega)
  apply wf_eq
  unfold F_law_maps
  rw [wf_fn]
  unfold B_law_maps
  refine wp_step fun K hK => ?_
  rw [wx, p_Bind]
  refine wo_of (sizeE rfl) ?_
  rw [p_Set]
  refine ⟨by simp, hK _ ?_⟩
  clear hK K
  refine wp_cutK (fun ρ => ρ = [some (ordT n T), some (natD k), some (natD n), some (rwsD false (rowsK 0 k)), none, none, none, none]) (fun K hK => ?_) ?_
  · rw [wx, p_Bind]
    have h1 := w_fz (lstG (ρ := [some (ordT n T), some (natD k), some (natD n), none, none, none, none, none]) (agC (tupG agN rfl (by simp)) agN) (by simp))
    refine wo_of h1 ?_
    rw [p_Set]
    exact ⟨by simp, hK _ rfl⟩
  intro ρ h
  subst h
  refine wp_cutK (fun ρ => ∃ (v4 v5 v6 v7 : Option D), ρ = [some (ordT n T), some (natD k), some (natD n), some (rwsD false (rowsK n k)), v4, v5, v6, v7]) (fun K hK => ?_) ?_
  · rw [wx, p_For, src_rng2 (var_eq rfl rfl) (by omega), wo_ok]
    refine wp_forK (fun t ρ => ∃ (v4 v5 v6 v7 : Option D), ρ = [some (ordT n T), some (natD k), some (natD n), some (rwsD false (rowsK t k)), v4, v5, v6, v7]) ⟨none, none, none, none, rfl⟩ ?_ ?_
    · intro t d ρ hd h J hJ
      obtain ⟨v4, v5, v6, v7, hρ⟩ := h
      subst hρ
      obtain ⟨ht, rfl⟩ := vec_get' (f := natD) hd
      rw [s_tg1]
      refine ⟨by simp, ?_⟩
      refine wp_cutK (fun ρ => ∃ (v6 v7 : Option D), ρ = [some (ordT n T), some (natD k), some (natD n), some (rwsD false (rowsK t k)), some (natD t), some (rwsD true []), v6, v7]) (fun K hK => ?_) ?_
      · rw [wx, p_Bind]
        refine wo_of (lstG agN (by simp)) ?_
        rw [p_Set]
        exact ⟨by simp, hK _ ⟨_, _, rfl⟩⟩
      intro ρ h
      obtain ⟨v6, v7, hρ⟩ := h
      subst hρ
      have hrl : (rowsK t k).length ≤ 243 := by rw [rowsK_len]; exact hp t (by omega)
      have hrm : ∀ r ∈ rowsK t k, r.length = t := fun r hr => (mem_rowsK.mp hr).1
      have hsucc : rowsK (t + 1) k = (rowsK t k).flatMap fun r => (List.range k).map fun v => r ++ [v + 1] := by
        rw [rowsK]
      refine wp_cutK (fun ρ => ∃ (v6 v7 : Option D), ρ = [some (ordT n T), some (natD k), some (natD n), some (rwsD false (rowsK t k)), some (natD t), some (rwsD false (rowsK (t + 1) k)), v6, v7]) (fun K hK => ?_) ?_
      · have hsrc : ∀ ρ : DL.Env, ρ[3]? = some (some (rwsD false (rowsK t k))) → dIter (dFz (dU gList (dVar 3))) ρ = .ok ((rowsK t k).map tupN) ρ := fun ρ h => by
          have h1 : dU gList (dVar 3) ρ = .ok (rwsD true (rowsK t k)) ρ := uE (var_eq h isF_rws) fun P => by
            have hfl : isFL ((rowsK t k).map tupN) = true := isFL_map fun _ => isF_tupN
            unfold gList
            simp [hfl]
          have h2 := w_fz h1
          rw [frz_rws] at h2
          exact itRws h2 (by omega)
        rw [wx, p_Frz, p_For, hsrc _ rfl, wo_ok]
        rw [hsucc] at hK
        generalize rowsK t k = Rs at *
        refine wp_forK (fun a ρ => ∃ (v6 v7 : Option D), ρ = [some (ordT n T), some (natD k), some (natD n), some (rwsD false Rs), some (natD t), some (rwsD true ((Rs.take a).flatMap fun r => (List.range k).map fun v => r ++ [v + 1])), v6, v7]) ⟨v6, v7, rfl⟩ ?_ ?_
        · intro a d ρ hd h J2 hJ2
          obtain ⟨v6, v7, hρ⟩ := h
          subst hρ
          have hpg := par_get (Ps := Rs) (i := a) (d := d) hd
          generalize hG : (SO (tg1 6 d _) _ : Prop) = G
          obtain ⟨r, hr, hde⟩ := hpg
          subst hde
          rw [← hG]
          clear hG
          have hrt := hrm r (List.mem_of_getElem? hr)
          have tk : Rs.take (a + 1) = Rs.take a ++ [r] := by rw [List.take_succ, hr]; rfl
          rw [tk, List.flatMap_append, List.flatMap_singleton] at hJ2
          have hbl := flat_lenB (f := fun r : List Nat => (List.range k).map fun v => r ++ [v + 1]) (m := 3) (fun r => by rw [List.length_map, List.length_range]; exact hk) (Rs.take a)
          have hta : (Rs.take a).length ≤ 243 := by rw [List.length_take]; omega
          generalize ((Rs.take a).flatMap fun r => (List.range k).map fun v => r ++ [v + 1]) = acc at *
          rw [s_tg1]
          refine ⟨by simp, ?_⟩
          have hs2 : ∀ ρ : DL.Env, ρ[1]? = some (some (natD k)) → dRng2 (dC (.int 1)) (dOp2 gAdd (dVar 1) (dC (.int 1))) ρ = .ok (((List.range k).map (1 + ·)).map natD) ρ := fun ρ h => by
            have := src_rg2 (i := 1) (m := k + 1) (ρ := ρ) (f := dC (.int 1)) (g := dOp2 gAdd (dVar 1) (dC (.int 1))) (cE (x := .int 1)) (op2E (var_eq h rfl) (cE (x := .int 1)) fun P => by simp [natD]) (by omega) (by omega)
            rw [this, Nat.add_sub_cancel]
          rw [p_For, hs2 _ rfl, wo_ok]
          refine wp_forK (fun b ρ => ∃ (v7 : Option D), ρ = [some (ordT n T), some (natD k), some (natD n), some (rwsD false Rs), some (natD t), some (rwsD true (acc ++ (List.range b).map fun v => r ++ [v + 1])), some (tupN r), v7]) ⟨v7, by simp⟩ ?_ ?_
          · intro b d ρ hd h J3 hJ3
            obtain ⟨v7, hρ⟩ := h
            subst hρ
            obtain ⟨v, hv, rfl⟩ := natD_get hd
            have hbk : b < k := by
              have := (List.getElem?_eq_some_iff.mp hd).1
              simpa using this
            have ev : v = b + 1 := by
              rw [List.getElem?_map, List.getElem?_range hbk] at hv
              have h9 : some (1 + b) = some v := hv
              injection h9 with h9
              omega
            subst ev
            rw [s_tg1]
            refine ⟨by simp, ?_⟩
            refine has_app (i := 5) (xs := (acc ++ (List.range b).map fun v => r ++ [v + 1]).map tupN) (d := tupN (r ++ [b + 1])) rfl (op2E (a := tupN r) (b := .n .tup false [natD (b + 1)]) (var_eq rfl isF_tupN) (tup1 (var_eq rfl rfl) rfl) fun P => add_tup2 (by omega)) (by rw [List.length_map, List.length_append, List.length_map, List.length_range]; omega) (hJ3 _ ⟨some (natD (b + 1)), ?_⟩)
            have e5 : (acc ++ (List.range b).map fun v => r ++ [v + 1]).map tupN ++ [tupN (r ++ [b + 1])] = (acc ++ (List.range (b + 1)).map fun v => r ++ [v + 1]).map tupN := by
              rw [List.range_succ]
              simp
            rw [e5]
            rfl
          · intro ρ h
            obtain ⟨v7, hρ⟩ := h
            subst hρ
            rw [List.length_map, List.length_map, List.length_range]
            exact hJ2 _ ⟨_, _, rfl⟩
        · intro ρ h
          obtain ⟨v6, v7, hρ⟩ := h
          subst hρ
          rw [List.length_map, List.take_length]
          show K (frzAt 5 _)
          rw [frzAt_some (d := rwsD true (Rs.flatMap fun r => (List.range k).map fun v => r ++ [v + 1])) rfl, frz_rws]
          exact hK _ ⟨_, _, rfl⟩
      intro ρ h
      obtain ⟨v6, v7, hρ⟩ := h
      subst hρ
      rw [p_Bind]
      refine wo_of (var_eq rfl isF_rws) ?_
      rw [p_Set]
      exact ⟨by simp, hJ _ ⟨_, _, _, _, rfl⟩⟩
    · intro ρ h
      obtain ⟨v4, v5, v6, v7, hρ⟩ := h
      subst hρ
      rw [range_map_len2]
      exact hK _ ⟨_, _, _, _, rfl⟩
  intro ρ h
  obtain ⟨v4, v5, v6, v7, hρ⟩ := h
  subst hρ
  rw [p_Bind]
  exact wo_of (var_eq rfl isF_rws) ⟨rfl, rfl⟩
def plB (n : Nat) (T : Tb) (r : List Nat) : Bool := (prs n T).all fun p => !decide (itL r p.2 < itL r p.1)
def sqB (n : Nat) (T : Tb) (r : List Nat) : Bool := (prs n T).all fun p => !decide (itL r p.1 = itL r p.2)
def onB (k : Nat) (r : List Nat) : Bool := ((List.range k).map (1 + ·)).all fun v => decide (v ∈ r)
theorem cntAll {α : Type} {l : List α} {p : α → Bool} : decide ((l.filter p).length = 0) = l.all fun x => !p x := filter_nil_all
theorem counts_eq {n k : Nat} {T : Tb} (hn : n ≤ 5) (hk : k ≤ 3) : F_law_counts [ordT n T, natD k] = .rt (.n .tup false [natD ((rowsK n k).filter (plB n T)).length, natD ((rowsK n k).filter fun r => plB n T r && sqB n T r).length, natD ((rowsK n k).filter fun r => plB n T r && onB k r).length]) none := by
  have hmp := maps_eq (T := T) hn hk
  have hrl : (rowsK n k).length ≤ 243 := by
    have key : ∀ k, k < 4 → ∀ m, m < 6 → k ^ m ≤ 243 := by decide +kernel
    rw [rowsK_len]
    exact key k (by omega) n (by omega)
  have hps := prs_lenn (n := n) (T := T)
  have hnn : n * n ≤ 5 * 5 := Nat.mul_le_mul hn hn
  have hpb : ∀ p ∈ prs n T, p.1 < n ∧ p.2 < n := fun p hp => prs_bd p hp
  have fP : isF (.n .tup false ((prs n T).map prD)) = true := by simp
  apply wf_eq
  unfold F_law_counts
  rw [wf_fn]
  unfold B_law_counts
  refine wp_step fun K hK => ?_
  simp
  apply hK
  clear hK K
  refine wp_step fun K hK => ?_
  simp
  apply hK
  clear hK K
  refine wp_step fun K hK => ?_
  simp
  apply hK
  clear hK K
  refine wp_step fun K hK => ?_
  rw [wx, p_Bind]
  refine wo_of (pairsE (by omega) rfl) ?_
  rw [p_Set]
  refine ⟨by simp, hK _ ?_⟩
  clear hK K
  have hsp : ∀ ρ : DL.Env, ρ[5]? = some (some (.n .tup false ((prs n T).map prD))) → dIter (dVar 5) ρ = .ok ((prs n T).map prD) ρ := fun ρ h => by
    apply out_eq
    rw [w_Iter, var_eq h fP, wo_ok]
    simp
    omega
  generalize hps' : prs n T = ps at *
  refine wp_cutK (fun ρ => ∃ (v6 : Option D), ρ = [some (ordT n T), some (natD k), some (natD ((rowsK n k).filter (plB n T)).length), some (natD ((rowsK n k).filter fun r => plB n T r && sqB n T r).length), some (natD ((rowsK n k).filter fun r => plB n T r && onB k r).length), some (.n .tup false (ps.map prD)), v6, none, none]) (fun K hK => ?_) ?_
  · rw [wx, p_For, itRws (L := rowsK n k) (call2 (b := natD k) (var_eq rfl isF_ordT) (var_eq rfl rfl) isF_ordT rfl hmp) (by omega), wo_ok]
    have hrm : ∀ r ∈ rowsK n k, r.length = n := fun r hr => (mem_rowsK.mp hr).1
    generalize rowsK n k = Rs at *
    refine wp_forK (fun a ρ => ∃ (v6 : Option D), ρ = [some (ordT n T), some (natD k), some (natD ((Rs.take a).filter (plB n T)).length), some (natD ((Rs.take a).filter fun r => plB n T r && sqB n T r).length), some (natD ((Rs.take a).filter fun r => plB n T r && onB k r).length), some (.n .tup false (ps.map prD)), v6, none, none]) ⟨none, rfl⟩ ?_ ?_
    · intro a d ρ hd h J hJ
      obtain ⟨v6, hρ⟩ := h
      subst hρ
      obtain ⟨r, hr, rfl⟩ := par_get hd
      have hrn := hrm r (List.mem_of_getElem? hr)
      have tk : Rs.take (a + 1) = Rs.take a ++ [r] := by rw [List.take_succ, hr]; rfl
      rw [tk] at hJ
      simp only [List.filter_append, List.length_append] at hJ
      generalize ((Rs.take a).filter (plB n T)).length = c1 at *
      generalize ((Rs.take a).filter fun r => plB n T r && sqB n T r).length = c2 at *
      generalize ((Rs.take a).filter fun r => plB n T r && onB k r).length = c3 at *
      rw [s_tg1]
      refine ⟨by simp, ?_⟩
      have hrx : ∀ (ρ : DL.Env) (p : Nat × Nat), p ∈ ps → ρ[6]? = some (some (tupN r)) → ρ[7]? = some (some (prD p)) → dOp2 gIx (dVar 6) (dOp2 gIx (dVar 7) (dC (.int 0))) ρ = .ok (natD (itL r p.1)) ρ ∧ dOp2 gIx (dVar 6) (dOp2 gIx (dVar 7) (dC (.int 1))) ρ = .ok (natD (itL r p.2)) ρ := fun ρ p hp h6 h7 => by
        have hb := hpb p hp
        have g0 : dOp2 gIx (dVar 7) (dC (.int 0)) ρ = .ok (natD p.1) ρ := ixTP (xs := [natD p.1, natD p.2]) (i := 0) (var_eq h7 rfl) (cE (x := .int 0)) rfl rfl
        have g1 : dOp2 gIx (dVar 7) (dC (.int 1)) ρ = .ok (natD p.2) ρ := ixTP (xs := [natD p.1, natD p.2]) (i := 1) (var_eq h7 rfl) (cE (x := .int 1)) rfl rfl
        exact ⟨ixTP (var_eq h6 isF_tupN) g0 (natD_ix (by omega)) rfl, ixTP (var_eq h6 isF_tupN) g1 (natD_ix (by omega)) rfl⟩
      have lenF : ∀ (ρ : DL.Env) (f : DL.Env → Out D) (l : List (Nat × Nat)), f ρ = .ok (.lst true (l.map prD)) ρ → dU gLen f ρ = .ok (natD l.length) ρ := fun ρ f l h => uE h fun P => by simp [natD]
      have t1 : ∀ ρ : DL.Env, ρ[5]? = some (some (.n .tup false (ps.map prD))) → ρ[6]? = some (some (tupN r)) → ρ[7]? = some none → dB (dOp2 gEq (dU gLen (dLc [7] (dIter (dVar 5)) (tg1 7) (dB (dOp2 gGt (dOp2 gIx (dVar 6) (dOp2 gIx (dVar 7) (dC (.int 0)))) (dOp2 gIx (dVar 6) (dOp2 gIx (dVar 7) (dC (.int 1)))))) (dVar 7))) (dC (.int 0))) ρ = .ok (plB n T r) ρ := fun ρ h5 h6 h7 => by
        have hl7 : 7 < ρ.length := (List.getElem?_eq_some_iff.mp h7).1
        have h1 : dLc [7] (dIter (dVar 5)) (tg1 7) (dB (dOp2 gGt (dOp2 gIx (dVar 6) (dOp2 gIx (dVar 7) (dC (.int 0)))) (dOp2 gIx (dVar 6) (dOp2 gIx (dVar 7) (dC (.int 1)))))) (dVar 7) ρ = .ok (.lst true ((ps.filter fun p => decide (itL r p.2 < itL r p.1)).map prD)) ρ := by
          apply out_eq
          refine w_lcM (l := ps) prD (fun p => decide (itL r p.2 < itL r p.1)) prD (fun d h => by rw [h7] at h; cases h) hl7 (hsp ρ h5) (by omega) (fun p hp => ?_) (fun p hp _ => var_eq (by rw [List.getElem?_set_self hl7]) (by simp)) ⟨rfl, rfl⟩
          have := hrx (ρ.set 7 (some (prD p))) p hp (by rw [List.getElem?_set_ne (by decide), h6]) (by rw [List.getElem?_set_self hl7])
          exact gtE this.1 this.2
        refine (eqN (b := 0) (lenF _ _ _ h1) (cE (x := .int 0))).trans ?_
        rw [cntAll]
        unfold plB
        rw [hps']
      have t2 : ∀ ρ : DL.Env, ρ[5]? = some (some (.n .tup false (ps.map prD))) → ρ[6]? = some (some (tupN r)) → ρ[7]? = some none → dB (dOp2 gEq (dU gLen (dLc [7] (dIter (dVar 5)) (tg1 7) (dB (dOp2 gEq (dOp2 gIx (dVar 6) (dOp2 gIx (dVar 7) (dC (.int 0)))) (dOp2 gIx (dVar 6) (dOp2 gIx (dVar 7) (dC (.int 1)))))) (dVar 7))) (dC (.int 0))) ρ = .ok (sqB n T r) ρ := fun ρ h5 h6 h7 => by
        have hl7 : 7 < ρ.length := (List.getElem?_eq_some_iff.mp h7).1
        have h1 : dLc [7] (dIter (dVar 5)) (tg1 7) (dB (dOp2 gEq (dOp2 gIx (dVar 6) (dOp2 gIx (dVar 7) (dC (.int 0)))) (dOp2 gIx (dVar 6) (dOp2 gIx (dVar 7) (dC (.int 1)))))) (dVar 7) ρ = .ok (.lst true ((ps.filter fun p => decide (itL r p.1 = itL r p.2)).map prD)) ρ := by
          apply out_eq
          refine w_lcM (l := ps) prD (fun p => decide (itL r p.1 = itL r p.2)) prD (fun d h => by rw [h7] at h; cases h) hl7 (hsp ρ h5) (by omega) (fun p hp => ?_) (fun p hp _ => var_eq (by rw [List.getElem?_set_self hl7]) (by simp)) ⟨rfl, rfl⟩
          have := hrx (ρ.set 7 (some (prD p))) p hp (by rw [List.getElem?_set_ne (by decide), h6]) (by rw [List.getElem?_set_self hl7])
          exact eqN this.1 this.2
        refine (eqN (b := 0) (lenF _ _ _ h1) (cE (x := .int 0))).trans ?_
        rw [cntAll]
        unfold sqB
        rw [hps']
      have t3 : ∀ ρ : DL.Env, ρ[1]? = some (some (natD k)) → ρ[6]? = some (some (tupN r)) → ρ[8]? = some none → dB (dOp2 gEq (dU gLen (dLc [8] (dRng2 (dC (.int 1)) (dOp2 gAdd (dVar 1) (dC (.int 1)))) (tg1 8) (dB (dOp2 gNotIn (dVar 8) (dVar 6))) (dVar 8))) (dC (.int 0))) ρ = .ok (onB k r) ρ := fun ρ h1 h6 h8 => by
        have hl8 : 8 < ρ.length := (List.getElem?_eq_some_iff.mp h8).1
        have hs2 : dRng2 (dC (.int 1)) (dOp2 gAdd (dVar 1) (dC (.int 1))) ρ = .ok (((List.range k).map (1 + ·)).map natD) ρ := by
          have := src_rg2 (i := 1) (m := k + 1) (ρ := ρ) (f := dC (.int 1)) (g := dOp2 gAdd (dVar 1) (dC (.int 1))) (cE (x := .int 1)) (op2E (var_eq h1 rfl) (cE (x := .int 1)) fun P => by simp [natD]) (by omega) (by omega)
          rw [this, Nat.add_sub_cancel]
        have h2 : dLc [8] (dRng2 (dC (.int 1)) (dOp2 gAdd (dVar 1) (dC (.int 1)))) (tg1 8) (dB (dOp2 gNotIn (dVar 8) (dVar 6))) (dVar 8) ρ = .ok (.n .lst true ((((List.range k).map (1 + ·)).filter fun v => !decide (v ∈ r)).map natD)) ρ := by
          apply out_eq
          refine w_lcNF (l := (List.range k).map (1 + ·)) (fun v => !decide (v ∈ r)) natD (fun d h => by rw [h8] at h; cases h) hl8 hs2 (by simp; omega) (fun v hv => ?_) (fun v hv _ => var_eq (by rw [List.getElem?_set_self hl8]) rfl) ⟨rfl, rfl⟩
          exact bE (op2E (a := natD v) (b := tupN r) (var_eq (by rw [List.getElem?_set_self hl8]) rfl) (var_eq (by rw [List.getElem?_set_ne (by decide), h6]) isF_tupN) fun P => o_notinN (.inr rfl))
        refine (eqN (b := 0) (lenL h2) (cE (x := .int 0))).trans ?_
        rw [cntAll]
        unfold onB
        congr 2
        funext v
        rw [Bool.not_not]
      have inc : ∀ (ρ : DL.Env) (i c : Nat), ρ[i]? = some (some (natD c)) → dOp2 gAdd (dVar i) (dC (.int 1)) ρ = .ok (natD (c + 1)) ρ := fun ρ i c h => op2E (var_eq h rfl) (cE (x := .int 1)) fun P => by simp [natD]
      rw [p_If]
      refine wo_ofB (t1 _ rfl rfl rfl) ?_
      cases e1 : plB n T r with
      | false =>
        rw [if_neg (by decide), p_Next]
        refine hJ _ ⟨some (tupN r), ?_⟩
        simp [e1]
      | true =>
        rw [if_pos rfl]
        refine wp_step fun K hK => ?_
        rw [wx, p_Bind]
        refine wo_of (inc _ 2 c1 rfl) ?_
        rw [p_Set]
        refine ⟨by simp, hK _ ?_⟩
        clear hK K
        show WP _ (dSeq _ _ [some (ordT n T), some (natD k), some (natD (c1 + 1)), some (natD c2), some (natD c3), some (.n .tup false (ps.map prD)), some (tupN r), none, none])
        refine wp_cutK (fun ρ => ρ = [some (ordT n T), some (natD k), some (natD (c1 + 1)), some (natD c2), some (natD (c3 + ([r].filter (onB k)).length)), some (.n .tup false (ps.map prD)), some (tupN r), none, none]) (fun K hK => ?_) ?_
        · rw [wx, p_If]
          rw [t3 [some (ordT n T), some (natD k), some (natD (c1 + 1)), some (natD c2), some (natD c3), some (.n .tup false (ps.map prD)), some (tupN r), none, none] rfl rfl rfl, wo_ok]
          cases e3 : onB k r with
          | false =>
            rw [if_neg (by decide), p_Next]
            exact hK _ (by simp [e3])
          | true =>
            rw [if_pos rfl, p_Bind]
            refine wo_of (inc _ 4 c3 rfl) ?_
            rw [p_Set]
            exact ⟨by simp, hK _ (by simp [e3])⟩
        intro ρ h
        subst h
        have e3 : ([r].filter fun r => plB n T r && onB k r).length = ([r].filter (onB k)).length := by simp only [List.filter_cons, List.filter_nil, e1, Bool.true_and]
        rw [e3] at hJ
        generalize ([r].filter (onB k)).length = x3 at *
        rw [p_If]
        refine wo_ofB (t2 _ rfl rfl rfl) ?_
        cases e2 : sqB n T r with
        | false =>
          rw [if_neg (by decide), p_Next]
          refine hJ _ ⟨some (tupN r), ?_⟩
          simp [e1, e2]
        | true =>
          rw [if_pos rfl, p_Bind]
          refine wo_of (inc _ 3 c2 rfl) ?_
          rw [p_Set]
          refine ⟨by simp, hJ _ ⟨some (tupN r), ?_⟩⟩
          simp [e1, e2]
    · intro ρ h
      obtain ⟨v6, hρ⟩ := h
      subst hρ
      rw [List.length_map, List.take_length]
      exact hK _ ⟨_, rfl⟩
  intro ρ h
  obtain ⟨v6, hρ⟩ := h
  subst hρ
  rw [p_Bind]
  exact wo_of (tupG (agC (var_eq rfl rfl) (agC (var_eq rfl rfl) (agC (var_eq rfl rfl) agN))) rfl (by simp)) ⟨rfl, rfl⟩
end DC
namespace G29
open PySem L2 DL
def B_law : DL.Env → Fl :=
  (dSeq (dBind (dCall 1 DC.F_law_numbers (dACons (dVar 0) dANil)) (stSet 1))
  (dSeq (dBind (dFz (dCallL 2 (some 0) DC.F_law_order (dALent 1 (dACons (dC (.int 5)) dANil)))) (stSet 2))
  (dSeq (dBind (dMeth "Order" "size" 0 DC.F_Order_size (dVar 2) dANil) (stSet 3))
  (dSeq (dFrz 1 (dBind (dCallL 2 (some 0) DC.F_law_next (dALent 1 (dACons (dC (.int 4)) dANil))) (stSet 4)))
  (dSeq (dBind (dFz (dCall 2 DC.F_law_counts (dACons (dVar 2) (dACons (dVar 4) dANil)))) (stTg (tgT [5, 6, 7])))
  (dSeq (dBind (dCall 1 DC.F_order_polynomial (dACons (dVar 2) dANil)) (stSet 8))
  (dSeq (dBind (dCall 1 DC.F_strict_polynomial (dACons (dVar 2) dANil)) (stSet 9))
  (dSeq (dIf (dOrT (dB (dOp2 gNe (dCall 2 DC.F_value_at (dACons (dVar 8) (dACons (dVar 4) dANil))) (dVar 5))) (dB (dOp2 gNe (dCall 2 DC.F_value_at (dACons (dVar 9) (dACons (dVar 4) dANil))) (dVar 6)))) (dBind (dC (.bl false)) fun d ρ => .rt d ρ) dNext)
  (dSeq (dIf (dAndT (dB (dOp2 gLt (dVar 4) (dU gLen (dVar 8)))) (dB (dOp2 gNe (dOp2 gIx (dVar 8) (dVar 4)) (dVar 7)))) (dBind (dC (.bl false)) fun d ρ => .rt d ρ) dNext)
  (dSeq (dIf (dAndT (dB (dOp2 gGe (dVar 4) (dU gLen (dVar 8)))) (dB (dOp2 gNe (dVar 7) (dC (.int 0))))) (dBind (dC (.bl false)) fun d ρ => .rt d ρ) dNext)
  (dSeq (dFor (dRng2 (dC (.int 1)) (dC (.int 5))) (tg1 10) (dIf (dB (dOp2 gNe (dCall 2 DC.F_value_at (dACons (dVar 9) (dACons (dVar 10) dANil))) (dOp2 gMul (dCall 2 DC.F_value_at (dACons (dVar 8) (dACons (dU gNeg (dVar 10)) dANil))) (dOp2 gSub (dC (.int 1)) (dOp2 gMul (dC (.int 2)) (dOp2 gMod (dVar 3) (dC (.int 2)))))))) (dBind (dC (.bl false)) fun d ρ => .rt d ρ) dNext))
  (dBind (dAndV (dOp2 gNe (dOp2 gIx (dVar 8) (dU gNeg (dC (.int 1)))) (dC (.int 0))) (dAndV (dOp2 gNe (dOp2 gIx (dVar 9) (dU gNeg (dC (.int 1)))) (dC (.int 0))) (dAndV (dOp2 gEq (dU gLen (dVar 8)) (dOp2 gAdd (dVar 3) (dC (.int 1)))) (dOp2 gEq (dU gLen (dVar 9)) (dOp2 gAdd (dVar 3) (dC (.int 1))))))) fun d ρ => .rt d ρ))))))))))))
def F_law : List D → FR := fnD 11 none B_law
end G29
set_option pp.maxSteps 1500
namespace G29
open PySem L2 DL DC
theorem cnt_gen {n k : Nat} {T : Tb} {st on : Bool} {p : List Nat → Bool} (hp : ∀ r ∈ rowsK n k, p r = true ↔ (∀ x y, x < n → y < n → T x y = true → itL r x ≤ itL r y ∧ (st = true → itL r x < itL r y)) ∧ (on = true → ∀ v, 1 ≤ v → v ≤ k → ∃ x, x < n ∧ itL r x = v)) : ((((rowsK n k).filter p).length : Nat) : Int) = Cr n T st on k (2 ^ n - 1) := by
  have h : ((rowsK n k).filter p).Perm (okRs n T st on k (2 ^ n - 1)) := by
    refine (List.perm_ext_iff_of_nodup (rowsK_nd.filter _) okRs_nd).mpr fun r => ?_
    rw [List.mem_filter, mem_okRs]
    have hfull : ∀ x, x < n → (2 ^ n - 1).testBit x = true := fun x hx => by
      rw [Nat.testBit_two_pow_sub_one]
      simpa using hx
    constructor
    · rintro ⟨h1, h2⟩
      obtain ⟨h3, h4⟩ := (hp r h1).mp h2
      obtain ⟨h5, h6⟩ := mem_rowsK.mp h1
      exact ⟨mem_rowsK.mpr ⟨h5, fun x hx => by have := h6 x hx; omega⟩, fun x hx => ⟨fun _ => (h6 x hx).2, fun _ => hfull x hx⟩, full_low, fun x y hx hy _ _ hT => h3 x y hx hy hT, h4⟩
    · rintro ⟨h1, h2⟩
      obtain ⟨h5, h6⟩ := mem_rowsK.mp h1
      have h7 : r ∈ rowsK n k := mem_rowsK.mpr ⟨h5, fun x hx => ⟨(h6 x hx).1, (h2.ms x hx).mp (hfull x hx)⟩⟩
      exact ⟨h7, (hp r h7).mpr ⟨fun x y hx hy hT => h2.go x y hx hy (hfull x hx) (hfull y hy) hT, h2.on⟩⟩
  unfold Cr
  rw [h.length_eq]
theorem plB_iff {n : Nat} {T : Tb} {r : List Nat} : plB n T r = true ↔ ∀ x y, x < n → y < n → T x y = true → itL r x ≤ itL r y := by
  unfold plB
  rw [List.all_eq_true]
  constructor
  · intro h x y hx hy hT
    have := h (x, y) (mem_prs.mpr ⟨hx, hy, hT⟩)
    simpa using this
  · rintro h ⟨x, y⟩ hp
    obtain ⟨hx, hy, hT⟩ := mem_prs.mp hp
    have := h x y hx hy hT
    simpa using this
theorem sqB_iff {n : Nat} {T : Tb} {r : List Nat} : sqB n T r = true ↔ ∀ x y, x < n → y < n → T x y = true → itL r x ≠ itL r y := by
  unfold sqB
  rw [List.all_eq_true]
  constructor
  · intro h x y hx hy hT
    have := h (x, y) (mem_prs.mpr ⟨hx, hy, hT⟩)
    simpa using this
  · rintro h ⟨x, y⟩ hp
    obtain ⟨hx, hy, hT⟩ := mem_prs.mp hp
    have := h x y hx hy hT
    simpa using this
theorem onB_iff {n k : Nat} {r : List Nat} (hr : r.length = n) : onB k r = true ↔ ∀ v, 1 ≤ v → v ≤ k → ∃ x, x < n ∧ itL r x = v := by
  unfold onB
  rw [List.all_eq_true]
  constructor
  · intro h v h1 h2
    have := h v (List.mem_map.mpr ⟨v - 1, List.mem_range.mpr (by omega), by omega⟩)
    obtain ⟨x, hx, e⟩ := itL_ex (of_decide_eq_true this)
    exact ⟨x, by omega, e⟩
  · intro h v hv
    obtain ⟨u, hu, rfl⟩ := List.mem_map.mp hv
    have := List.mem_range.mp hu
    obtain ⟨x, hx, e⟩ := h (1 + u) (by omega) (by omega)
    refine decide_eq_true ?_
    rw [← e]
    exact itL_mem (by omega)
theorem cnt_plain {n k : Nat} {T : Tb} : ((((rowsK n k).filter (plB n T)).length : Nat) : Int) = Cr n T false false k (2 ^ n - 1) := cnt_gen fun r _ => by
  rw [plB_iff]
  exact ⟨fun h => ⟨fun x y hx hy hT => ⟨h x y hx hy hT, (fun q => Bool.noConfusion q)⟩, (fun q => Bool.noConfusion q)⟩, fun h x y hx hy hT => (h.1 x y hx hy hT).1⟩
theorem cnt_strict {n k : Nat} {T : Tb} : ((((rowsK n k).filter fun r => plB n T r && sqB n T r).length : Nat) : Int) = Cr n T true false k (2 ^ n - 1) := cnt_gen fun r _ => by
  rw [Bool.and_eq_true, plB_iff, sqB_iff]
  constructor
  · rintro ⟨h1, h2⟩
    refine ⟨fun x y hx hy hT => ?_, (fun q => Bool.noConfusion q)⟩
    have a := h1 x y hx hy hT
    have b := h2 x y hx hy hT
    exact ⟨a, fun _ => by omega⟩
  · intro h
    exact ⟨fun x y hx hy hT => (h.1 x y hx hy hT).1, fun x y hx hy hT => by have := (h.1 x y hx hy hT).2 rfl; omega⟩
theorem cnt_onto {n k : Nat} {T : Tb} : ((((rowsK n k).filter fun r => plB n T r && onB k r).length : Nat) : Int) = Cr n T false true k (2 ^ n - 1) := cnt_gen fun r hr => by
  rw [Bool.and_eq_true, plB_iff, onB_iff (mem_rowsK.mp hr).1]
  constructor
  · rintro ⟨h1, h2⟩
    exact ⟨fun x y hx hy hT => ⟨h1 x y hx hy hT, (fun q => Bool.noConfusion q)⟩, fun _ => h2⟩
  · intro h
    exact ⟨fun x y hx hy hT => (h.1 x y hx hy hT).1, h.2 rfl⟩
theorem Sm_ext {f : Nat → Int} {a : Nat} (h : ∀ j, a ≤ j → j < 6 → f j = 0) : ∀ d, a + d ≤ 6 → Sm (a + d) f = Sm a f
  | 0, _ => rfl
  | d + 1, hd => by
    rw [← Nat.add_assoc, Sm_succ, Sm_ext h d (by omega), h (a + d) (by omega) (by omega)]
    omega
theorem sum6 {n : Nat} {T : Tb} {st : Bool} (hn : n ≤ 5) (b : Nat → Int) : (Sm (n + 1) fun j => Cr n T st true j (2 ^ n - 1) * b j) = Sm 6 fun j => b j * Cr n T st true j (2 ^ n - 1) := by
  have h1 := Sm_ext (f := fun j => Cr n T st true j (2 ^ n - 1) * b j) (a := n + 1) (fun j h1 h2 => by
    show Cr n T st true j (2 ^ n - 1) * b j = 0
    rw [Cr_big full_lt (by rw [sz_full]; omega)]
    omega) (5 - n) (by omega)
  have e : n + 1 + (5 - n) = 6 := by omega
  rw [e] at h1
  rw [← h1]
  exact Sm_congr fun j _ => Int.mul_comm _ _
theorem sgE {n : Nat} (hn : n ≤ 5) {ρ : DL.Env} (h : ρ[3]? = some (some (natD n))) : dOp2 gSub (dC (.int 1)) (dOp2 gMul (dC (.int 2)) (dOp2 gMod (dVar 3) (dC (.int 2)))) ρ = .ok (.a (.int ((-1) ^ n))) ρ := by
  rcases (show n = 0 ∨ n = 1 ∨ n = 2 ∨ n = 3 ∨ n = 4 ∨ n = 5 by omega) with rfl | rfl | rfl | rfl | rfl | rfl
  · exact op2E (cE (x := .int 1)) (op2E (cE (x := .int 2)) (op2E (d := natD 0) (var_eq h rfl) (cE (x := .int 2)) fun P => rfl) fun P => rfl) fun P => rfl
  · exact op2E (cE (x := .int 1)) (op2E (cE (x := .int 2)) (op2E (d := natD 1) (var_eq h rfl) (cE (x := .int 2)) fun P => rfl) fun P => rfl) fun P => rfl
  · exact op2E (cE (x := .int 1)) (op2E (cE (x := .int 2)) (op2E (d := natD 0) (var_eq h rfl) (cE (x := .int 2)) fun P => rfl) fun P => rfl) fun P => rfl
  · exact op2E (cE (x := .int 1)) (op2E (cE (x := .int 2)) (op2E (d := natD 1) (var_eq h rfl) (cE (x := .int 2)) fun P => rfl) fun P => rfl) fun P => rfl
  · exact op2E (cE (x := .int 1)) (op2E (cE (x := .int 2)) (op2E (d := natD 0) (var_eq h rfl) (cE (x := .int 2)) fun P => rfl) fun P => rfl) fun P => rfl
  · exact op2E (cE (x := .int 1)) (op2E (cE (x := .int 2)) (op2E (d := natD 1) (var_eq h rfl) (cE (x := .int 2)) fun P => rfl) fun P => rfl) fun P => rfl
theorem sg_or (n : Nat) : ((-1 : Int) ^ n) = 1 ∨ ((-1 : Int) ^ n) = -1 := by
  induction n with
  | zero => exact .inl rfl
  | succ n ih =>
    rw [Int.pow_succ]
    rcases ih with h | h <;> rw [h]
    · exact .inr rfl
    · exact .inl rfl
theorem sg_sq (n : Nat) : ((-1 : Int) ^ n) * ((-1) ^ n) = 1 ∧ ((-1 : Int) ^ n).natAbs < 1000000 := by
  rcases sg_or n with h | h <;> rw [h] <;> exact ⟨rfl, by decide⟩
theorem neZ {f g : DL.Env → Out D} {ρ : DL.Env} {a : Int} (hf : f ρ = .ok (.a (.int a)) ρ) (hg : g ρ = .ok (.a (.int a)) ρ) : dB (dOp2 gNe f g) ρ = .ok false ρ := bE (op2E hf hg fun P => by
  simp)
theorem neZ0 {f g : DL.Env → Out D} {ρ : DL.Env} {a b : Int} (hf : f ρ = .ok (.a (.int a)) ρ) (hg : g ρ = .ok (.a (.int b)) ρ) (h : a ≠ b) : dOp2 gNe f g ρ = .ok (.a (.bl true)) ρ := op2E hf hg fun P => by
  simp [h]
theorem law_true (ns : List Int) (hl : ns.length ≤ 63) (hb : ∀ z ∈ ns, Builtin.Int.intBits z ≤ 1048576) : F_law [.scr (ns.map D.int)] = .rt (.bl true) none := by
  apply wf_eq
  unfold F_law
  rw [wf_fn]
  unfold B_law
  refine wp_step fun K hK => ?_
  simp
  refine (numbers_wf ns hl hb).mono ?_
  intro d io h1
  apply hK
  clear hK K
  generalize D.scr (ns.map D.int) = d0
  refine wp_cutK (fun ρ => ∃ (st : D) (n : Nat) (T : Tb), ρ = [some (d0), some (st), some (ordT n T), none, none, none, none, none, none, none, none] ∧ (n ≤ 5 ∧ Irr n T ∧ Tr n T ∧ Nms st)) (fun K hK => ?_) ?_
  · simp
    refine (order_wf h1.1 5 (by decide)).mono ?_
    rintro d io ⟨n, ps, rfl, hn, hac, st', rfl, h3⟩
    simp [ordD_eq]
    exact hK _ ⟨_, n, _, rfl, hn, acyc_irr hac, clo_tr hac.bd, h3⟩
  clear h1 io d
  intro ρ h
  obtain ⟨st, n, T, hρ, hn, iT, tT, h1⟩ := h
  subst hρ
  refine wp_step fun K hK => ?_
  rw [wx, p_Bind]
  refine wo_of (sizeE rfl) ?_
  rw [p_Set]
  refine ⟨by simp, hK _ ?_⟩
  clear hK K
  refine wp_cutK (fun ρ => ∃ (st : D) (k : Nat), ρ = [some (d0), some (st), some (ordT n T), some (natD n), some (natD k), none, none, none, none, none, none] ∧ (k < 4)) (fun K hK => ?_) ?_
  · rw [wx, p_Frz]
    simp
    refine (next_wf h1 4 (by decide)).mono ?_
    rintro d io ⟨v, rfl, hv0, hv4, st', rfl, h3⟩
    obtain ⟨k, rfl⟩ : ∃ k : Nat, v = (k : Int) := ⟨v.toNat, by omega⟩
    simp
    exact hK _ ⟨_, k, rfl, by omega⟩
  intro ρ h
  obtain ⟨st, k, hρ, hk⟩ := h
  subst hρ
  obtain ⟨L, hLl, hLp, hperm, hso⟩ := lowers (T := T) hn
  have H : LowL n T L := ⟨fun m => by rw [hperm.mem_iff, List.mem_filter, List.mem_range], hperm.symm.nodup_iff.mp (List.nodup_range.filter _), hso⟩
  have hL : L.length ≤ 32 := by
    rw [hperm.length_eq]
    have := List.length_filter_le (lowG n T) (List.range (2 ^ n))
    rw [List.length_range] at this
    have := two5 hn
    omega
  have hW := onto_eq (st := false) tT iT hn H hL hLp
  have hN := onto_eq (st := true) tT iT hn H hL hLp
  have hcb : ∀ st j, j < n + 1 → (Cr n T st true j (2 ^ n - 1)).natAbs < 1000000 := fun st j hj => Cr_bound hn (by omega)
  have vP : ∀ (st : Bool) (k : Nat), k < 5 → F_value_at [.n .tup false (vecI (n + 1) fun t => Cr n T st true t (2 ^ n - 1)), .a (.int (k : Int))] = .rt (.a (.int (Cr n T st false k (2 ^ n - 1)))) none := fun st k hk => by
    have := value_atG (L := n + 1) (z := (k : Int)) (c := fun t => Cr n T st true t (2 ^ n - 1)) (b := chs k) (by omega) (hcb st) fun j hj => binP hk hj
    rw [this, sum6 hn, ← Cr_plain hn full_lt full_low]
  have vN : ∀ k : Nat, k < 5 → F_value_at [.n .tup false (vecI (n + 1) fun t => Cr n T false true t (2 ^ n - 1)), .a (.int (-(k : Int)))] = .rt (.a (.int ((-1) ^ n * Cr n T true false k (2 ^ n - 1)))) none := fun k hk => by
    have := value_atG (L := n + 1) (z := -(k : Int)) (c := fun t => Cr n T false true t (2 ^ n - 1)) (b := ngc k) (by omega) (hcb false) fun j hj => binN hk hj
    rw [this, sum6 hn]
    have h9 := Hm_Sg tT iT hn k full_lt (full_low (T := T) (n := n))
    unfold Hm Sg sgN at h9
    rw [sz_full] at h9
    rw [h9]
  have top : ∀ st, Cr n T st true n (2 ^ n - 1) ≠ 0 := fun st => by
    have := Cr_top tT iT (st := st) n sz_full full_lt full_low
    omega
  have hcnt := counts_eq (T := T) (k := k) hn (by omega)
  have e1 : natD ((rowsK n k).filter (plB n T)).length = .a (.int (Cr n T false false k (2 ^ n - 1))) := by unfold natD; rw [cnt_plain]
  have e2 : natD ((rowsK n k).filter fun r => plB n T r && sqB n T r).length = .a (.int (Cr n T true false k (2 ^ n - 1))) := by unfold natD; rw [cnt_strict]
  have e3 : natD ((rowsK n k).filter fun r => plB n T r && onB k r).length = .a (.int (Cr n T false true k (2 ^ n - 1))) := by unfold natD; rw [cnt_onto]
  rw [e1, e2, e3] at hcnt
  have hbig : n < k → Cr n T false true k (2 ^ n - 1) = 0 := fun h => Cr_big full_lt (by rw [sz_full]; omega)
  have hbd : ∀ m, m < 5 → (Cr n T true false m (2 ^ n - 1)).natAbs < 1000000 := fun m hm => Cr_bound hn (by omega)
  generalize hfu : 2 ^ n - 1 = F at *
  have fW : isF (.n .tup false (vecI (n + 1) fun t => Cr n T false true t F)) = true := by rw [isF_n, isFL_vecI]; rfl
  have fN : isF (.n .tup false (vecI (n + 1) fun t => Cr n T true true t F)) = true := by rw [isF_n, isFL_vecI]; rfl
  refine wp_cutK (fun ρ => ρ = [some (d0), some (st), some (ordT n T), some (natD n), some (natD k), some (.a (.int (Cr n T false false k F))), some (.a (.int (Cr n T true false k F))), some (.a (.int (Cr n T false true k F))), none, none, none]) (fun K hK => ?_) ?_
  · rw [wx, p_Bind]
    have h1 := w_fz (call2 (ρ := [some (d0), some (st), some (ordT n T), some (natD n), some (natD k), none, none, none, none, none, none]) (fa := dVar 2) (fb := dVar 4) (b := natD k) (var_eq rfl isF_ordT) (var_eq rfl rfl) isF_ordT rfl hcnt)
    refine wo_of h1 ?_
    rw [p_Tg]
    simp
    exact hK _ rfl
  intro ρ h
  subst h
  have hop : F_order_polynomial [ordT n T] = .rt (.n .tup false (vecI (n + 1) fun t => Cr n T false true t F)) none := by
    apply wf_eq
    unfold F_order_polynomial
    rw [wf_fn]
    unfold B_order_polynomial
    rw [p_Bind]
    exact wo_of (call2 (b := .a (.bl false)) (var_eq rfl isF_ordT) (cE (x := .bl false)) isF_ordT rfl hW) ⟨rfl, rfl⟩
  have hsp : F_strict_polynomial [ordT n T] = .rt (.n .tup false (vecI (n + 1) fun t => Cr n T true true t F)) none := by
    apply wf_eq
    unfold F_strict_polynomial
    rw [wf_fn]
    unfold B_strict_polynomial
    rw [p_Bind]
    exact wo_of (call2 (b := .a (.bl true)) (var_eq rfl isF_ordT) (cE (x := .bl true)) isF_ordT rfl hN) ⟨rfl, rfl⟩
  refine wp_step fun K hK => ?_
  rw [wx, p_Bind]
  refine wo_of (call1 (var_eq rfl isF_ordT) isF_ordT hop) ?_
  rw [p_Set]
  refine ⟨by simp, hK _ ?_⟩
  clear hK K
  refine wp_step fun K hK => ?_
  rw [wx, p_Bind]
  refine wo_of (call1 (var_eq rfl isF_ordT) isF_ordT hsp) ?_
  rw [p_Set]
  refine ⟨by simp, hK _ ?_⟩
  clear hK K
  show WP _ (dSeq _ _ [some (d0), some (st), some (ordT n T), some (natD n), some (natD k), some (.a (.int (Cr n T false false k F))), some (.a (.int (Cr n T true false k F))), some (.a (.int (Cr n T false true k F))), some (.n .tup false (vecI (n + 1) fun t => Cr n T false true t F)), some (.n .tup false (vecI (n + 1) fun t => Cr n T true true t F)), none])
  have lnW : ∀ ρ : DL.Env, ρ[8]? = some (some (.n .tup false (vecI (n + 1) fun t => Cr n T false true t F))) → dU gLen (dVar 8) ρ = .ok (natD (n + 1)) ρ := fun ρ h => by
    have := lenT (var_eq h fW)
    rwa [vecI_len] at this
  have lnN : ∀ ρ : DL.Env, ρ[9]? = some (some (.n .tup false (vecI (n + 1) fun t => Cr n T true true t F))) → dU gLen (dVar 9) ρ = .ok (natD (n + 1)) ρ := fun ρ h => by
    have := lenT (var_eq h fN)
    rwa [vecI_len] at this
  refine wp_step fun K hK => ?_
  rw [wx]
  refine if_no (or_no (neZ (call2 (b := natD k) (var_eq rfl fW) (var_eq rfl rfl) fW rfl (vP false k (by omega))) (var_eq rfl rfl)) (neZ (call2 (b := natD k) (var_eq rfl fN) (var_eq rfl rfl) fN rfl (vP true k (by omega))) (var_eq rfl rfl))) ?_
  rw [p_Next]
  apply hK
  clear hK K
  refine wp_step fun K hK => ?_
  rw [wx]
  have t2 : ∀ ρ : DL.Env, ρ = [some (d0), some (st), some (ordT n T), some (natD n), some (natD k), some (.a (.int (Cr n T false false k F))), some (.a (.int (Cr n T true false k F))), some (.a (.int (Cr n T false true k F))), some (.n .tup false (vecI (n + 1) fun t => Cr n T false true t F)), some (.n .tup false (vecI (n + 1) fun t => Cr n T true true t F)), none] → dAndT (dB (dOp2 gLt (dVar 4) (dU gLen (dVar 8)))) (dB (dOp2 gNe (dOp2 gIx (dVar 8) (dVar 4)) (dVar 7))) ρ = .ok false ρ := by
    rintro ρ rfl
    by_cases q : k < n + 1
    · have h1 := andE (ltE (var_eq (i := 4) rfl rfl) (lnW [some (d0), some (st), some (ordT n T), some (natD n), some (natD k), some (.a (.int (Cr n T false false k F))), some (.a (.int (Cr n T true false k F))), some (.a (.int (Cr n T false true k F))), some (.n .tup false (vecI (n + 1) fun t => Cr n T false true t F)), some (.n .tup false (vecI (n + 1) fun t => Cr n T true true t F)), none] rfl)) fun _ => neZ (op2E (a := .n .tup false (vecI (n + 1) fun t => Cr n T false true t F)) (b := natD k) (var_eq (i := 8) rfl fW) (var_eq (i := 4) rfl rfl) fun P => vecI_ix (.inr rfl) q) (var_eq (i := 7) rfl rfl)
      rw [Bool.and_false] at h1
      exact h1
    · have h1 := andE (b := false) (g := dB (dOp2 gNe (dOp2 gIx (dVar 8) (dVar 4)) (dVar 7))) (ltE (var_eq (i := 4) rfl rfl) (lnW [some (d0), some (st), some (ordT n T), some (natD n), some (natD k), some (.a (.int (Cr n T false false k F))), some (.a (.int (Cr n T true false k F))), some (.a (.int (Cr n T false true k F))), some (.n .tup false (vecI (n + 1) fun t => Cr n T false true t F)), some (.n .tup false (vecI (n + 1) fun t => Cr n T true true t F)), none] rfl)) fun h => absurd (of_decide_eq_true h) q
      rw [Bool.and_false] at h1
      exact h1
  refine if_no (t2 _ rfl) ?_
  rw [p_Next]
  apply hK
  clear hK K
  refine wp_step fun K hK => ?_
  rw [wx]
  have t3 : ∀ ρ : DL.Env, ρ = [some (d0), some (st), some (ordT n T), some (natD n), some (natD k), some (.a (.int (Cr n T false false k F))), some (.a (.int (Cr n T true false k F))), some (.a (.int (Cr n T false true k F))), some (.n .tup false (vecI (n + 1) fun t => Cr n T false true t F)), some (.n .tup false (vecI (n + 1) fun t => Cr n T true true t F)), none] → dAndT (dB (dOp2 gGe (dVar 4) (dU gLen (dVar 8)))) (dB (dOp2 gNe (dVar 7) (dC (.int 0)))) ρ = .ok false ρ := by
    rintro ρ rfl
    have g1 := geE (a := (k : Int)) (b := ((n + 1 : Nat) : Int)) (var_eq (i := 4) (ρ := [some (d0), some (st), some (ordT n T), some (natD n), some (natD k), some (.a (.int (Cr n T false false k F))), some (.a (.int (Cr n T true false k F))), some (.a (.int (Cr n T false true k F))), some (.n .tup false (vecI (n + 1) fun t => Cr n T false true t F)), some (.n .tup false (vecI (n + 1) fun t => Cr n T true true t F)), none]) rfl rfl) (lnW [some (d0), some (st), some (ordT n T), some (natD n), some (natD k), some (.a (.int (Cr n T false false k F))), some (.a (.int (Cr n T true false k F))), some (.a (.int (Cr n T false true k F))), some (.n .tup false (vecI (n + 1) fun t => Cr n T false true t F)), some (.n .tup false (vecI (n + 1) fun t => Cr n T true true t F)), none] rfl)
    have h1 := andE (b := false) (g := dB (dOp2 gNe (dVar 7) (dC (.int 0)))) g1 fun h => by
      have h2 := of_decide_eq_true h
      have h3 := hbig (by omega)
      exact (neI (a := Cr n T false true k F) (b := 0) (var_eq (i := 7) rfl rfl) (cE (x := .int 0))).trans (by rw [decide_eq_true h3]; rfl)
    rw [Bool.and_false] at h1
    exact h1
  refine if_no (t3 _ rfl) ?_
  rw [p_Next]
  apply hK
  clear hK K
  refine wp_cutK (fun ρ => ∃ (v10 : Option D), ρ = [some (d0), some (st), some (ordT n T), some (natD n), some (natD k), some (.a (.int (Cr n T false false k F))), some (.a (.int (Cr n T true false k F))), some (.a (.int (Cr n T false true k F))), some (.n .tup false (vecI (n + 1) fun t => Cr n T false true t F)), some (.n .tup false (vecI (n + 1) fun t => Cr n T true true t F)), v10]) (fun K hK => ?_) ?_
  · have hsrc : ∀ ρ : DL.Env, dRng2 (dC (.int 1)) (dC (.int 5)) ρ = .ok (((List.range (5 - 1)).map (1 + ·)).map natD) ρ := fun ρ => src_rg2 (i := 1) (m := 5) (cE (x := .int 1)) (cE (x := .int 5)) (by decide) (by decide)
    rw [wx, p_For, hsrc, wo_ok]
    refine wp_forK (fun a ρ => ∃ (v10 : Option D), ρ = [some (d0), some (st), some (ordT n T), some (natD n), some (natD k), some (.a (.int (Cr n T false false k F))), some (.a (.int (Cr n T true false k F))), some (.a (.int (Cr n T false true k F))), some (.n .tup false (vecI (n + 1) fun t => Cr n T false true t F)), some (.n .tup false (vecI (n + 1) fun t => Cr n T true true t F)), v10]) ⟨none, rfl⟩ ?_ ?_
    · intro a d ρ hd h J hJ
      obtain ⟨v10, hρ⟩ := h
      subst hρ
      obtain ⟨m, hm, rfl⟩ := natD_get hd
      have hm5 : m < 5 := by
        obtain ⟨u, hu, rfl⟩ := List.mem_map.mp (List.mem_of_getElem? hm)
        have := List.mem_range.mp hu
        show 1 + u < 5
        omega
      rw [s_tg1]
      refine ⟨by simp, ?_⟩
      have tn : ∀ ρ : DL.Env, ρ = [some (d0), some (st), some (ordT n T), some (natD n), some (natD k), some (.a (.int (Cr n T false false k F))), some (.a (.int (Cr n T true false k F))), some (.a (.int (Cr n T false true k F))), some (.n .tup false (vecI (n + 1) fun t => Cr n T false true t F)), some (.n .tup false (vecI (n + 1) fun t => Cr n T true true t F)), some (natD m)] → dB (dOp2 gNe (dCall 2 F_value_at (dACons (dVar 9) (dACons (dVar 10) dANil))) (dOp2 gMul (dCall 2 F_value_at (dACons (dVar 8) (dACons (dU gNeg (dVar 10)) dANil))) (dOp2 gSub (dC (.int 1)) (dOp2 gMul (dC (.int 2)) (dOp2 gMod (dVar 3) (dC (.int 2))))))) ρ = .ok false ρ := by
        rintro ρ rfl
        have hs := sg_sq n
        have hb9 := hbd m hm5
        refine neZ (call2 (b := natD m) (var_eq rfl fN) (var_eq rfl rfl) fN rfl (vP true m hm5)) (op2E (call2 (b := .a (.int (-(m : Int)))) (var_eq rfl fW) (uE (a := natD m) (var_eq rfl rfl) fun P => rfl) fW rfl (vN m hm5)) (sgE hn rfl) fun P => ?_)
        have hmo : mulOk ((-1) ^ n * Cr n T true false m F) ((-1) ^ n) = true := mulOk_b (by
          rcases sg_or n with h | h <;> rw [h] <;> omega) hs.2
        rw [o_mul, hmo]
        have e : (-1) ^ n * Cr n T true false m F * (-1) ^ n = Cr n T true false m F := by
          rw [Int.mul_right_comm, hs.1, Int.one_mul]
        rw [e]
        simp
      refine if_no (tn _ rfl) ?_
      rw [p_Next]
      exact hJ _ ⟨_, rfl⟩
    · intro ρ h
      obtain ⟨v10, hρ⟩ := h
      subst hρ
      exact hK _ ⟨_, rfl⟩
  intro ρ h
  obtain ⟨v10, hρ⟩ := h
  subst hρ
  rw [p_Bind]
  have lastI : ∀ (ρ : DL.Env) (i : Nat) (c : Nat → Int), ρ[i]? = some (some (.n .tup false (vecI (n + 1) c))) → dOp2 gIx (dVar i) (dU gNeg (dC (.int 1))) ρ = .ok (.a (.int (c n))) ρ := fun ρ i c h => by
    refine op2E (b := .a (.int (-1))) (var_eq h (by rw [isF_n, isFL_vecI]; rfl)) rfl fun P => ?_
    rw [← vecI_succ]
    exact gIx_last (.inr rfl) rfl
  have hn1 : ∀ ρ : DL.Env, ρ[3]? = some (some (natD n)) → dOp2 gAdd (dVar 3) (dC (.int 1)) ρ = .ok (natD (n + 1)) ρ := fun ρ h => op2E (var_eq h rfl) (cE (x := .int 1)) fun P => by simp [natD]
  have eqN1 : ∀ (f g : DL.Env → Out D) (ρ : DL.Env), f ρ = .ok (natD (n + 1)) ρ → g ρ = .ok (natD (n + 1)) ρ → dOp2 gEq f g ρ = .ok (.a (.bl true)) ρ := fun f g ρ hf hg => by
    have := eqNV hf hg
    rwa [decide_eq_true rfl] at this
  refine wo_of (andV (neZ0 (lastI _ 8 _ rfl) (cE (x := .int 0)) (top false)) (andV (neZ0 (lastI _ 9 _ rfl) (cE (x := .int 0)) (top true)) (andV (eqN1 _ _ _ (lnW _ rfl) (hn1 _ rfl)) (eqN1 _ _ _ (lnN _ rfl) (hn1 _ rfl))))) ⟨rfl, rfl⟩
end G29
namespace G29
open PySem L2 DL PyProof.Rows
structure TX (P : Program) (K : PySem.W.Frag) (mg : Str → Option Value) : Prop where
  says : DL.SaysY file fa fn es ys K
  pf : P.main.file = file
  pt : (P.main.scope.names.lookup ("super" : Str)).isSome = false
  ex : ∃ h : Heap, K.In h ∧ h.Ns mainGlobals mg
section
variable {P : Program} {K : PySem.W.Frag} {mg : Str → Option Value}
theorem TX.d_law_numbers (T : TX P K mg) : ∃ fd, FunD K d_law_numbers.name d_law_numbers.qual d_law_numbers.params d_law_numbers.body d_law_numbers.scope [] [] (He.fAd K d_law_numbers.at_) fd := T.says.d.def_ 0 rfl
theorem TX.d_law_next (T : TX P K mg) : ∃ fd, FunD K d_law_next.name d_law_next.qual d_law_next.params d_law_next.body d_law_next.scope [] [] (He.fAd K d_law_next.at_) fd := T.says.d.def_ 1 rfl
theorem TX.d_has (T : TX P K mg) : ∃ fd, FunD K d_has.name d_has.qual d_has.params d_has.body d_has.scope [] [] (He.fAd K d_has.at_) fd := T.says.d.def_ 2 rfl
theorem TX.d_u_closed (T : TX P K mg) : ∃ fd, FunD K d_u_closed.name d_u_closed.qual d_u_closed.params d_u_closed.body d_u_closed.scope [] [] (He.fAd K d_u_closed.at_) fd := T.says.d.def_ 3 rfl
theorem TX.d_is_integer (T : TX P K mg) : ∃ fd, FunD K d_is_integer.name d_is_integer.qual d_is_integer.params d_is_integer.body d_is_integer.scope [] [] (He.fAd K d_is_integer.at_) fd := T.says.d.def_ 4 rfl
theorem TX.d_u_checked_pairs (T : TX P K mg) : ∃ fd, FunD K d_u_checked_pairs.name d_u_checked_pairs.qual d_u_checked_pairs.params d_u_checked_pairs.body d_u_checked_pairs.scope [] [] (He.fAd K d_u_checked_pairs.at_) fd := T.says.d.def_ 5 rfl
theorem TX.d_OrderU_initU (T : TX P K mg) : ∃ fd, FunD K d_OrderU_initU.name d_OrderU_initU.qual d_OrderU_initU.params d_OrderU_initU.body d_OrderU_initU.scope [] [] (He.fAd K d_OrderU_initU.at_) fd := T.says.d.def_ 6 rfl
theorem TX.d_law_order (T : TX P K mg) : ∃ fd, FunD K d_law_order.name d_law_order.qual d_law_order.params d_law_order.body d_law_order.scope [] [] (He.fAd K d_law_order.at_) fd := T.says.d.def_ 7 rfl
theorem TX.d_Order_size (T : TX P K mg) : ∃ fd, FunD K d_Order_size.name d_Order_size.qual d_Order_size.params d_Order_size.body d_Order_size.scope [] [] (He.fAd K d_Order_size.at_) fd := T.says.d.def_ 8 rfl
theorem TX.d_members (T : TX P K mg) : ∃ fd, FunD K d_members.name d_members.qual d_members.params d_members.body d_members.scope [] [] (He.fAd K d_members.at_) fd := T.says.d.def_ 9 rfl
theorem TX.d_Order_pairs (T : TX P K mg) : ∃ fd, FunD K d_Order_pairs.name d_Order_pairs.qual d_Order_pairs.params d_Order_pairs.body d_Order_pairs.scope [] [] (He.fAd K d_Order_pairs.at_) fd := T.says.d.def_ 10 rfl
theorem TX.d_law_maps (T : TX P K mg) : ∃ fd, FunD K d_law_maps.name d_law_maps.qual d_law_maps.params d_law_maps.body d_law_maps.scope [] [] (He.fAd K d_law_maps.at_) fd := T.says.d.def_ 11 rfl
theorem TX.d_law_counts (T : TX P K mg) : ∃ fd, FunD K d_law_counts.name d_law_counts.qual d_law_counts.params d_law_counts.body d_law_counts.scope [] [] (He.fAd K d_law_counts.at_) fd := T.says.d.def_ 12 rfl
theorem TX.d_set_of (T : TX P K mg) : ∃ fd, FunD K d_set_of.name d_set_of.qual d_set_of.params d_set_of.body d_set_of.scope [] [] (He.fAd K d_set_of.at_) fd := T.says.d.def_ 13 rfl
theorem TX.d_Order_below (T : TX P K mg) : ∃ fd, FunD K d_Order_below.name d_Order_below.qual d_Order_below.params d_Order_below.body d_Order_below.scope [] [] (He.fAd K d_Order_below.at_) fd := T.says.d.def_ 14 rfl
theorem TX.d_parts (T : TX P K mg) : ∃ fd, FunD K d_parts.name d_parts.qual d_parts.params d_parts.body d_parts.scope [] [] (He.fAd K d_parts.at_) fd := T.says.d.def_ 15 rfl
theorem TX.d_count (T : TX P K mg) : ∃ fd, FunD K d_count.name d_count.qual d_count.params d_count.body d_count.scope [] [] (He.fAd K d_count.at_) fd := T.says.d.def_ 16 rfl
theorem TX.d_lower_sets (T : TX P K mg) : ∃ fd, FunD K d_lower_sets.name d_lower_sets.qual d_lower_sets.params d_lower_sets.body d_lower_sets.scope [] [] (He.fAd K d_lower_sets.at_) fd := T.says.d.def_ 17 rfl
theorem TX.d_Order_is_antichain (T : TX P K mg) : ∃ fd, FunD K d_Order_is_antichain.name d_Order_is_antichain.qual d_Order_is_antichain.params d_Order_is_antichain.body d_Order_is_antichain.scope [] [] (He.fAd K d_Order_is_antichain.at_) fd := T.says.d.def_ 18 rfl
theorem TX.d_steps_between (T : TX P K mg) : ∃ fd, FunD K d_steps_between.name d_steps_between.qual d_steps_between.params d_steps_between.body d_steps_between.scope [] [] (He.fAd K d_steps_between.at_) fd := T.says.d.def_ 19 rfl
theorem TX.d_trimmed (T : TX P K mg) : ∃ fd, FunD K d_trimmed.name d_trimmed.qual d_trimmed.params d_trimmed.body d_trimmed.scope [] [] (He.fAd K d_trimmed.at_) fd := T.says.d.def_ 20 rfl
theorem TX.d_onto_counts (T : TX P K mg) : ∃ fd, FunD K d_onto_counts.name d_onto_counts.qual d_onto_counts.params d_onto_counts.body d_onto_counts.scope [] [] (He.fAd K d_onto_counts.at_) fd := T.says.d.def_ 21 rfl
theorem TX.d_order_polynomial (T : TX P K mg) : ∃ fd, FunD K d_order_polynomial.name d_order_polynomial.qual d_order_polynomial.params d_order_polynomial.body d_order_polynomial.scope [] [] (He.fAd K d_order_polynomial.at_) fd := T.says.d.def_ 22 rfl
theorem TX.d_strict_polynomial (T : TX P K mg) : ∃ fd, FunD K d_strict_polynomial.name d_strict_polynomial.qual d_strict_polynomial.params d_strict_polynomial.body d_strict_polynomial.scope [] [] (He.fAd K d_strict_polynomial.at_) fd := T.says.d.def_ 23 rfl
theorem TX.d_binomial (T : TX P K mg) : ∃ fd, FunD K d_binomial.name d_binomial.qual d_binomial.params d_binomial.body d_binomial.scope [] [] (He.fAd K d_binomial.at_) fd := T.says.d.def_ 24 rfl
theorem TX.d_value_at (T : TX P K mg) : ∃ fd, FunD K d_value_at.name d_value_at.qual d_value_at.params d_value_at.body d_value_at.scope [] [] (He.fAd K d_value_at.at_) fd := T.says.d.def_ 25 rfl
theorem TX.d_law (T : TX P K mg) : ∃ fd, FunD K d_law.name d_law.qual d_law.params d_law.body d_law.scope [] [] (He.fAd K d_law.at_) fd := T.says.d.def_ 26 rfl
theorem TX.m_range (T : TX P K mg) : mg "range" = none := let ⟨_, X, G⟩ := T.ex; He.free_ok X G (T.says.d.fact 0 rfl)
theorem TX.m_len (T : TX P K mg) : mg "len" = none := let ⟨_, X, G⟩ := T.ex; He.free_ok X G (T.says.d.fact 1 rfl)
theorem TX.m_min (T : TX P K mg) : mg "min" = none := let ⟨_, X, G⟩ := T.ex; He.free_ok X G (T.says.d.fact 2 rfl)
theorem TX.m_abs (T : TX P K mg) : mg "abs" = none := let ⟨_, X, G⟩ := T.ex; He.free_ok X G (T.says.d.fact 3 rfl)
theorem TX.m_has (T : TX P K mg) : mg "has" = some (.ref (He.fAd K ("has", none))) ∧ PySem.W.keepIn K (.ref (He.fAd K ("has", none))) = true := let ⟨_, X, G⟩ := T.ex; ⟨He.glo_ok X G (T.says.d.fact 4 rfl), let ⟨_, F⟩ := T.d_has; F.kp⟩
theorem TX.m_Refused (T : TX P K mg) : mg "Refused" = some (.ref (He.ga K "Refused")) := let ⟨_, X, G⟩ := T.ex; He.glo_ok X G (T.says.d.fact 5 rfl)
theorem TX.m_super (T : TX P K mg) : mg "super" = none := let ⟨_, X, G⟩ := T.ex; He.free_ok X G (T.says.d.fact 6 rfl)
theorem TX.m_tuple (T : TX P K mg) : mg "tuple" = none := let ⟨_, X, G⟩ := T.ex; He.free_ok X G (T.says.d.fact 7 rfl)
theorem TX.m_isinstance (T : TX P K mg) : mg "isinstance" = none := let ⟨_, X, G⟩ := T.ex; He.free_ok X G (T.says.d.fact 8 rfl)
theorem TX.m_int (T : TX P K mg) : mg "int" = none := let ⟨_, X, G⟩ := T.ex; He.free_ok X G (T.says.d.fact 9 rfl)
theorem TX.m_bool (T : TX P K mg) : mg "bool" = none := let ⟨_, X, G⟩ := T.ex; He.free_ok X G (T.says.d.fact 10 rfl)
theorem TX.m_list (T : TX P K mg) : mg "list" = none := let ⟨_, X, G⟩ := T.ex; He.free_ok X G (T.says.d.fact 11 rfl)
theorem TX.m_Malformed (T : TX P K mg) : mg "Malformed" = some (.ref (He.ga K "Malformed")) := let ⟨_, X, G⟩ := T.ex; He.glo_ok X G (T.says.d.fact 12 rfl)
theorem TX.e_Malformed (T : TX P K mg) : DL.ExP K (He.ga K "Malformed") := let h := He.exc_ok (T.says.d.fact 13 rfl); ⟨h.1, h.2.1, h.2.2.1, h.2.2.2⟩
theorem TX.m_is_integer (T : TX P K mg) : mg "is_integer" = some (.ref (He.fAd K ("is_integer", none))) ∧ PySem.W.keepIn K (.ref (He.fAd K ("is_integer", none))) = true := let ⟨_, X, G⟩ := T.ex; ⟨He.glo_ok X G (T.says.d.fact 14 rfl), let ⟨_, F⟩ := T.d_is_integer; F.kp⟩
theorem TX.m_MOST (T : TX P K mg) : ∃ t, mg "MOST" = some (.int 10 t) := let ⟨_, X, G⟩ := T.ex; He.int_ok X G (T.says.d.fact 15 rfl)
theorem TX.c_Order (T : TX P K mg) : Cls K (He.ga K "Order") := He.cls_ok (T.says.d.fact 16 rfl)
theorem TX.n_Order_n (T : TX P K mg) : NoAttr K (He.ga K "Order") "n" := He.noat_ok (T.says.d.fact 17 rfl)
theorem TX.m__closed (T : TX P K mg) : mg "_closed" = some (.ref (He.fAd K ("_closed", none))) ∧ PySem.W.keepIn K (.ref (He.fAd K ("_closed", none))) = true := let ⟨_, X, G⟩ := T.ex; ⟨He.glo_ok X G (T.says.d.fact 18 rfl), let ⟨_, F⟩ := T.d_u_closed; F.kp⟩
theorem TX.m__checked_pairs (T : TX P K mg) : mg "_checked_pairs" = some (.ref (He.fAd K ("_checked_pairs", none))) ∧ PySem.W.keepIn K (.ref (He.fAd K ("_checked_pairs", none))) = true := let ⟨_, X, G⟩ := T.ex; ⟨He.glo_ok X G (T.says.d.fact 19 rfl), let ⟨_, F⟩ := T.d_u_checked_pairs; F.kp⟩
theorem TX.n_Order_above (T : TX P K mg) : NoAttr K (He.ga K "Order") "above" := He.noat_ok (T.says.d.fact 20 rfl)
theorem TX.m__law_next (T : TX P K mg) : mg "_law_next" = some (.ref (He.fAd K ("_law_next", none))) ∧ PySem.W.keepIn K (.ref (He.fAd K ("_law_next", none))) = true := let ⟨_, X, G⟩ := T.ex; ⟨He.glo_ok X G (T.says.d.fact 21 rfl), let ⟨_, F⟩ := T.d_law_next; F.kp⟩
theorem TX.m_Order (T : TX P K mg) : mg "Order" = some (.ref (He.ga K "Order")) := let ⟨_, X, G⟩ := T.ex; He.glo_ok X G (T.says.d.fact 22 rfl)
theorem TX.k_Order (T : TX P K mg) : Mk K (He.ga K "Order") (He.fAd K ("Order", some "__init__")) := He.mkr_ok (T.says.d.fact 23 rfl)
theorem TX.m_members (T : TX P K mg) : mg "members" = some (.ref (He.fAd K ("members", none))) ∧ PySem.W.keepIn K (.ref (He.fAd K ("members", none))) = true := let ⟨_, X, G⟩ := T.ex; ⟨He.glo_ok X G (T.says.d.fact 24 rfl), let ⟨_, F⟩ := T.d_members; F.kp⟩
theorem TX.q_Order_size (T : TX P K mg) : Meth K (He.ga K "Order") "size" (He.fAd K ("Order", some "size")) := He.meth_ok (T.says.d.fact 25 rfl)
theorem TX.q_Order_pairs (T : TX P K mg) : Meth K (He.ga K "Order") "pairs" (He.fAd K ("Order", some "pairs")) := He.meth_ok (T.says.d.fact 26 rfl)
theorem TX.m__law_maps (T : TX P K mg) : mg "_law_maps" = some (.ref (He.fAd K ("_law_maps", none))) ∧ PySem.W.keepIn K (.ref (He.fAd K ("_law_maps", none))) = true := let ⟨_, X, G⟩ := T.ex; ⟨He.glo_ok X G (T.says.d.fact 27 rfl), let ⟨_, F⟩ := T.d_law_maps; F.kp⟩
theorem TX.m_set_of (T : TX P K mg) : mg "set_of" = some (.ref (He.fAd K ("set_of", none))) ∧ PySem.W.keepIn K (.ref (He.fAd K ("set_of", none))) = true := let ⟨_, X, G⟩ := T.ex; ⟨He.glo_ok X G (T.says.d.fact 28 rfl), let ⟨_, F⟩ := T.d_set_of; F.kp⟩
theorem TX.q_Order_below (T : TX P K mg) : Meth K (He.ga K "Order") "below" (He.fAd K ("Order", some "below")) := He.meth_ok (T.says.d.fact 29 rfl)
theorem TX.m_parts (T : TX P K mg) : mg "parts" = some (.ref (He.fAd K ("parts", none))) ∧ PySem.W.keepIn K (.ref (He.fAd K ("parts", none))) = true := let ⟨_, X, G⟩ := T.ex; ⟨He.glo_ok X G (T.says.d.fact 30 rfl), let ⟨_, F⟩ := T.d_parts; F.kp⟩
theorem TX.m_all (T : TX P K mg) : mg "all" = none := let ⟨_, X, G⟩ := T.ex; He.free_ok X G (T.says.d.fact 31 rfl)
theorem TX.m_count (T : TX P K mg) : mg "count" = some (.ref (He.fAd K ("count", none))) ∧ PySem.W.keepIn K (.ref (He.fAd K ("count", none))) = true := let ⟨_, X, G⟩ := T.ex; ⟨He.glo_ok X G (T.says.d.fact 32 rfl), let ⟨_, F⟩ := T.d_count; F.kp⟩
theorem TX.m_sorted (T : TX P K mg) : mg "sorted" = none := let ⟨_, X, G⟩ := T.ex; He.free_ok X G (T.says.d.fact 33 rfl)
theorem TX.m_lower_sets (T : TX P K mg) : mg "lower_sets" = some (.ref (He.fAd K ("lower_sets", none))) ∧ PySem.W.keepIn K (.ref (He.fAd K ("lower_sets", none))) = true := let ⟨_, X, G⟩ := T.ex; ⟨He.glo_ok X G (T.says.d.fact 34 rfl), let ⟨_, F⟩ := T.d_lower_sets; F.kp⟩
theorem TX.q_Order_is_antichain (T : TX P K mg) : Meth K (He.ga K "Order") "is_antichain" (He.fAd K ("Order", some "is_antichain")) := He.meth_ok (T.says.d.fact 35 rfl)
theorem TX.m_steps_between (T : TX P K mg) : mg "steps_between" = some (.ref (He.fAd K ("steps_between", none))) ∧ PySem.W.keepIn K (.ref (He.fAd K ("steps_between", none))) = true := let ⟨_, X, G⟩ := T.ex; ⟨He.glo_ok X G (T.says.d.fact 36 rfl), let ⟨_, F⟩ := T.d_steps_between; F.kp⟩
theorem TX.m_trimmed (T : TX P K mg) : mg "trimmed" = some (.ref (He.fAd K ("trimmed", none))) ∧ PySem.W.keepIn K (.ref (He.fAd K ("trimmed", none))) = true := let ⟨_, X, G⟩ := T.ex; ⟨He.glo_ok X G (T.says.d.fact 37 rfl), let ⟨_, F⟩ := T.d_trimmed; F.kp⟩
theorem TX.m_onto_counts (T : TX P K mg) : mg "onto_counts" = some (.ref (He.fAd K ("onto_counts", none))) ∧ PySem.W.keepIn K (.ref (He.fAd K ("onto_counts", none))) = true := let ⟨_, X, G⟩ := T.ex; ⟨He.glo_ok X G (T.says.d.fact 38 rfl), let ⟨_, F⟩ := T.d_onto_counts; F.kp⟩
theorem TX.m_binomial (T : TX P K mg) : mg "binomial" = some (.ref (He.fAd K ("binomial", none))) ∧ PySem.W.keepIn K (.ref (He.fAd K ("binomial", none))) = true := let ⟨_, X, G⟩ := T.ex; ⟨He.glo_ok X G (T.says.d.fact 39 rfl), let ⟨_, F⟩ := T.d_binomial; F.kp⟩
theorem TX.m_sum (T : TX P K mg) : mg "sum" = none := let ⟨_, X, G⟩ := T.ex; He.free_ok X G (T.says.d.fact 40 rfl)
theorem TX.m__law_numbers (T : TX P K mg) : mg "_law_numbers" = some (.ref (He.fAd K ("_law_numbers", none))) ∧ PySem.W.keepIn K (.ref (He.fAd K ("_law_numbers", none))) = true := let ⟨_, X, G⟩ := T.ex; ⟨He.glo_ok X G (T.says.d.fact 41 rfl), let ⟨_, F⟩ := T.d_law_numbers; F.kp⟩
theorem TX.m__law_order (T : TX P K mg) : mg "_law_order" = some (.ref (He.fAd K ("_law_order", none))) ∧ PySem.W.keepIn K (.ref (He.fAd K ("_law_order", none))) = true := let ⟨_, X, G⟩ := T.ex; ⟨He.glo_ok X G (T.says.d.fact 42 rfl), let ⟨_, F⟩ := T.d_law_order; F.kp⟩
theorem TX.m__law_counts (T : TX P K mg) : mg "_law_counts" = some (.ref (He.fAd K ("_law_counts", none))) ∧ PySem.W.keepIn K (.ref (He.fAd K ("_law_counts", none))) = true := let ⟨_, X, G⟩ := T.ex; ⟨He.glo_ok X G (T.says.d.fact 43 rfl), let ⟨_, F⟩ := T.d_law_counts; F.kp⟩
theorem TX.m_order_polynomial (T : TX P K mg) : mg "order_polynomial" = some (.ref (He.fAd K ("order_polynomial", none))) ∧ PySem.W.keepIn K (.ref (He.fAd K ("order_polynomial", none))) = true := let ⟨_, X, G⟩ := T.ex; ⟨He.glo_ok X G (T.says.d.fact 44 rfl), let ⟨_, F⟩ := T.d_order_polynomial; F.kp⟩
theorem TX.m_strict_polynomial (T : TX P K mg) : mg "strict_polynomial" = some (.ref (He.fAd K ("strict_polynomial", none))) ∧ PySem.W.keepIn K (.ref (He.fAd K ("strict_polynomial", none))) = true := let ⟨_, X, G⟩ := T.ex; ⟨He.glo_ok X G (T.says.d.fact 45 rfl), let ⟨_, F⟩ := T.d_strict_polynomial; F.kp⟩
theorem TX.m_value_at (T : TX P K mg) : mg "value_at" = some (.ref (He.fAd K ("value_at", none))) ∧ PySem.W.keepIn K (.ref (He.fAd K ("value_at", none))) = true := let ⟨_, X, G⟩ := T.ex; ⟨He.glo_ok X G (T.says.d.fact 46 rfl), let ⟨_, F⟩ := T.d_value_at; F.kp⟩
theorem TX.r_Refused (T : TX P K mg) (w : World) (base : Heap) : DL.ExS P w K mg base (He.ga K "Refused") "reason" DL.okStr := let ⟨_, _, _, S, F⟩ := T.says.e 0 rfl T.pf T.pt; exS_str (p := "reason") S F T.m_super (by kernel_rfl) (by kernel_rfl) (by kernel_rfl) (by kernel_rfl) ⟨by kernel_rfl, by kernel_rfl⟩ (fun doc pm ctv us hl => match us, hl with | [_, _], _ => by kernel_rfl)
end
theorem sc_law_numbers : FnScope ["_law_script", "_law_found", "_law_k", "_law_cell", "_law_turn", "_law_i", "_law_mixed"] ["_law_script"] (defScope s_law_numbers) := ⟨by kernel_rfl, by kernel_rfl, by kernel_rfl, by decide +kernel, by kernel_rfl, by decide +kernel, by decide +kernel⟩
theorem bi_law_numbers (kV doc pm : Value) (an : Option Addr) (cdv ct : Value) (us : List Value) (hl : us.length = (["_law_script"] : List Str).length) : bindArgs (PySem.W.fnOf "_law_numbers" "_law_numbers" (defArgs s_law_numbers) (defBody s_law_numbers) (defScope s_law_numbers) .none kV doc pm an cdv ct) ⟨us, []⟩ = pure ((["_law_script"] : List Str).zip us) := match us, hl with | [_], _ => by kernel_rfl
theorem sc_law_next : FnScope ["_law_numbers_here", "_law_many"] ["_law_numbers_here", "_law_many"] (defScope s_law_next) := ⟨by kernel_rfl, by kernel_rfl, by kernel_rfl, by decide +kernel, by kernel_rfl, by decide +kernel, by decide +kernel⟩
theorem bi_law_next (kV doc pm : Value) (an : Option Addr) (cdv ct : Value) (us : List Value) (hl : us.length = (["_law_numbers_here", "_law_many"] : List Str).length) : bindArgs (PySem.W.fnOf "_law_next" "_law_next" (defArgs s_law_next) (defBody s_law_next) (defScope s_law_next) .none kV doc pm an cdv ct) ⟨us, []⟩ = pure ((["_law_numbers_here", "_law_many"] : List Str).zip us) := match us, hl with | [_, _], _ => by kernel_rfl
theorem sc_has : FnScope ["bits", "x"] ["bits", "x"] (defScope s_has) := ⟨by kernel_rfl, by kernel_rfl, by kernel_rfl, by decide +kernel, by kernel_rfl, by decide +kernel, by decide +kernel⟩
theorem bi_has (kV doc pm : Value) (an : Option Addr) (cdv ct : Value) (us : List Value) (hl : us.length = (["bits", "x"] : List Str).length) : bindArgs (PySem.W.fnOf "has" "has" (defArgs s_has) (defBody s_has) (defScope s_has) .none kV doc pm an cdv ct) ⟨us, []⟩ = pure ((["bits", "x"] : List Str).zip us) := match us, hl with | [_, _], _ => by kernel_rfl
theorem sc_u_closed : FnScope ["n", "pairs", "above", "x", "y"] ["n", "pairs"] (defScope s_u_closed) := ⟨by kernel_rfl, by kernel_rfl, by kernel_rfl, by decide +kernel, by kernel_rfl, by decide +kernel, by decide +kernel⟩
theorem bi_u_closed (kV doc pm : Value) (an : Option Addr) (cdv ct : Value) (us : List Value) (hl : us.length = (["n", "pairs"] : List Str).length) : bindArgs (PySem.W.fnOf "_closed" "_closed" (defArgs s_u_closed) (defBody s_u_closed) (defScope s_u_closed) .none kV doc pm an cdv ct) ⟨us, []⟩ = pure ((["n", "pairs"] : List Str).zip us) := match us, hl with | [_, _], _ => by kernel_rfl
theorem sc_is_integer : FnScope ["value"] ["value"] (defScope s_is_integer) := ⟨by kernel_rfl, by kernel_rfl, by kernel_rfl, by decide +kernel, by kernel_rfl, by decide +kernel, by decide +kernel⟩
theorem bi_is_integer (kV doc pm : Value) (an : Option Addr) (cdv ct : Value) (us : List Value) (hl : us.length = (["value"] : List Str).length) : bindArgs (PySem.W.fnOf "is_integer" "is_integer" (defArgs s_is_integer) (defBody s_is_integer) (defScope s_is_integer) .none kV doc pm an cdv ct) ⟨us, []⟩ = pure ((["value"] : List Str).zip us) := match us, hl with | [_], _ => by kernel_rfl
theorem sc_u_checked_pairs : FnScope ["n", "pairs", "out", "pair", "x"] ["n", "pairs"] (defScope s_u_checked_pairs) := ⟨by kernel_rfl, by kernel_rfl, by kernel_rfl, by decide +kernel, by kernel_rfl, by decide +kernel, by decide +kernel⟩
theorem bi_u_checked_pairs (kV doc pm : Value) (an : Option Addr) (cdv ct : Value) (us : List Value) (hl : us.length = (["n", "pairs"] : List Str).length) : bindArgs (PySem.W.fnOf "_checked_pairs" "_checked_pairs" (defArgs s_u_checked_pairs) (defBody s_u_checked_pairs) (defScope s_u_checked_pairs) .none kV doc pm an cdv ct) ⟨us, []⟩ = pure ((["n", "pairs"] : List Str).zip us) := match us, hl with | [_, _], _ => by kernel_rfl
theorem sc_OrderU_initU : FnScope ["self", "n", "pairs"] ["self", "n", "pairs"] (defScope s_OrderU_initU) := ⟨by kernel_rfl, by kernel_rfl, by kernel_rfl, by decide +kernel, by kernel_rfl, by decide +kernel, by decide +kernel⟩
theorem bi_OrderU_initU (kV doc pm : Value) (an : Option Addr) (cdv ct : Value) (us : List Value) (hl : us.length = (["self", "n", "pairs"] : List Str).length) : bindArgs (PySem.W.fnOf "__init__" "Order.__init__" (defArgs s_OrderU_initU) (defBody s_OrderU_initU) (defScope s_OrderU_initU) .none kV doc pm an cdv ct) ⟨us, []⟩ = pure ((["self", "n", "pairs"] : List Str).zip us) := match us, hl with | [_, _, _], _ => by kernel_rfl
theorem sc_law_order : FnScope ["_law_numbers_here", "_law_most", "_law_n", "_law_images", "_law_rest", "_law_turn", "_law_thick", "_law_pairs", "_law_i", "_law_j", "_law_k"] ["_law_numbers_here", "_law_most"] (defScope s_law_order) := ⟨by kernel_rfl, by kernel_rfl, by kernel_rfl, by decide +kernel, by kernel_rfl, by decide +kernel, by decide +kernel⟩
theorem bi_law_order (kV doc pm : Value) (an : Option Addr) (cdv ct : Value) (us : List Value) (hl : us.length = (["_law_numbers_here", "_law_most"] : List Str).length) : bindArgs (PySem.W.fnOf "_law_order" "_law_order" (defArgs s_law_order) (defBody s_law_order) (defScope s_law_order) .none kV doc pm an cdv ct) ⟨us, []⟩ = pure ((["_law_numbers_here", "_law_most"] : List Str).zip us) := match us, hl with | [_, _], _ => by kernel_rfl
theorem sc_Order_size : FnScope ["self"] ["self"] (defScope s_Order_size) := ⟨by kernel_rfl, by kernel_rfl, by kernel_rfl, by decide +kernel, by kernel_rfl, by decide +kernel, by decide +kernel⟩
theorem bi_Order_size (kV doc pm : Value) (an : Option Addr) (cdv ct : Value) (us : List Value) (hl : us.length = (["self"] : List Str).length) : bindArgs (PySem.W.fnOf "size" "Order.size" (defArgs s_Order_size) (defBody s_Order_size) (defScope s_Order_size) .none kV doc pm an cdv ct) ⟨us, []⟩ = pure ((["self"] : List Str).zip us) := match us, hl with | [_], _ => by kernel_rfl
theorem sc_members : FnScope ["bits", "x"] ["bits"] (defScope s_members) := ⟨by kernel_rfl, by kernel_rfl, by kernel_rfl, by decide +kernel, by kernel_rfl, by decide +kernel, by decide +kernel⟩
theorem bi_members (kV doc pm : Value) (an : Option Addr) (cdv ct : Value) (us : List Value) (hl : us.length = (["bits"] : List Str).length) : bindArgs (PySem.W.fnOf "members" "members" (defArgs s_members) (defBody s_members) (defScope s_members) .none kV doc pm an cdv ct) ⟨us, []⟩ = pure ((["bits"] : List Str).zip us) := match us, hl with | [_], _ => by kernel_rfl
theorem sc_Order_pairs : FnScope ["self", "out", "x", "y"] ["self"] (defScope s_Order_pairs) := ⟨by kernel_rfl, by kernel_rfl, by kernel_rfl, by decide +kernel, by kernel_rfl, by decide +kernel, by decide +kernel⟩
theorem bi_Order_pairs (kV doc pm : Value) (an : Option Addr) (cdv ct : Value) (us : List Value) (hl : us.length = (["self"] : List Str).length) : bindArgs (PySem.W.fnOf "pairs" "Order.pairs" (defArgs s_Order_pairs) (defBody s_Order_pairs) (defScope s_Order_pairs) .none kV doc pm an cdv ct) ⟨us, []⟩ = pure ((["self"] : List Str).zip us) := match us, hl with | [_], _ => by kernel_rfl
theorem sc_law_maps : FnScope ["_law_order_here", "_law_k", "_law_n", "_law_found", "_law_x", "_law_wider", "_law_row", "_law_value"] ["_law_order_here", "_law_k"] (defScope s_law_maps) := ⟨by kernel_rfl, by kernel_rfl, by kernel_rfl, by decide +kernel, by kernel_rfl, by decide +kernel, by decide +kernel⟩
theorem bi_law_maps (kV doc pm : Value) (an : Option Addr) (cdv ct : Value) (us : List Value) (hl : us.length = (["_law_order_here", "_law_k"] : List Str).length) : bindArgs (PySem.W.fnOf "_law_maps" "_law_maps" (defArgs s_law_maps) (defBody s_law_maps) (defScope s_law_maps) .none kV doc pm an cdv ct) ⟨us, []⟩ = pure ((["_law_order_here", "_law_k"] : List Str).zip us) := match us, hl with | [_, _], _ => by kernel_rfl
theorem sc_law_counts : FnScope ["_law_order_here", "_law_k", "_law_plain", "_law_strict", "_law_onto", "_law_pairs", "_law_row", "_law_pair", "_law_value"] ["_law_order_here", "_law_k"] (defScope s_law_counts) := ⟨by kernel_rfl, by kernel_rfl, by kernel_rfl, by decide +kernel, by kernel_rfl, by decide +kernel, by decide +kernel⟩
theorem bi_law_counts (kV doc pm : Value) (an : Option Addr) (cdv ct : Value) (us : List Value) (hl : us.length = (["_law_order_here", "_law_k"] : List Str).length) : bindArgs (PySem.W.fnOf "_law_counts" "_law_counts" (defArgs s_law_counts) (defBody s_law_counts) (defScope s_law_counts) .none kV doc pm an cdv ct) ⟨us, []⟩ = pure ((["_law_order_here", "_law_k"] : List Str).zip us) := match us, hl with | [_, _], _ => by kernel_rfl
theorem sc_set_of : FnScope ["points", "out", "x"] ["points"] (defScope s_set_of) := ⟨by kernel_rfl, by kernel_rfl, by kernel_rfl, by decide +kernel, by kernel_rfl, by decide +kernel, by decide +kernel⟩
theorem bi_set_of (kV doc pm : Value) (an : Option Addr) (cdv ct : Value) (us : List Value) (hl : us.length = (["points"] : List Str).length) : bindArgs (PySem.W.fnOf "set_of" "set_of" (defArgs s_set_of) (defBody s_set_of) (defScope s_set_of) .none kV doc pm an cdv ct) ⟨us, []⟩ = pure ((["points"] : List Str).zip us) := match us, hl with | [_], _ => by kernel_rfl
theorem sc_Order_below : FnScope ["self", "y", "x"] ["self"] (defScope s_Order_below) := ⟨by kernel_rfl, by kernel_rfl, by kernel_rfl, by decide +kernel, by kernel_rfl, by decide +kernel, by decide +kernel⟩
theorem bi_Order_below (kV doc pm : Value) (an : Option Addr) (cdv ct : Value) (us : List Value) (hl : us.length = (["self"] : List Str).length) : bindArgs (PySem.W.fnOf "below" "Order.below" (defArgs s_Order_below) (defBody s_Order_below) (defScope s_Order_below) .none kV doc pm an cdv ct) ⟨us, []⟩ = pure ((["self"] : List Str).zip us) := match us, hl with | [_], _ => by kernel_rfl
theorem ip_parts : IsParts (defBody s_parts) := ⟨_, _, _, _, _, _, _, _, _, _, _, _, _, _, _, _, _, _, _, _, _, rfl⟩
theorem bi_parts (kV doc pm : Value) (an : Option Addr) (cdv ct : Value) (us : List Value) (hl : us.length = (["bits"] : List Str).length) : bindArgs (PySem.W.fnOf "parts" "parts" (defArgs s_parts) (defBody s_parts) (defScope s_parts) .none kV doc pm an cdv ct) ⟨us, []⟩ = pure ((["bits"] : List Str).zip us) := match us, hl with | [_], _ => by kernel_rfl
theorem sc_count : FnScope ["bits"] ["bits"] (defScope s_count) := ⟨by kernel_rfl, by kernel_rfl, by kernel_rfl, by decide +kernel, by kernel_rfl, by decide +kernel, by decide +kernel⟩
theorem bi_count (kV doc pm : Value) (an : Option Addr) (cdv ct : Value) (us : List Value) (hl : us.length = (["bits"] : List Str).length) : bindArgs (PySem.W.fnOf "count" "count" (defArgs s_count) (defBody s_count) (defScope s_count) .none kV doc pm an cdv ct) ⟨us, []⟩ = pure ((["bits"] : List Str).zip us) := match us, hl with | [_], _ => by kernel_rfl
theorem sc_lower_sets : FnScope ["order", "full", "below", "found", "s", "_", "x"] ["order"] (defScope s_lower_sets) := ⟨by kernel_rfl, by kernel_rfl, by kernel_rfl, by decide +kernel, by kernel_rfl, by decide +kernel, by decide +kernel⟩
theorem bi_lower_sets (kV doc pm : Value) (an : Option Addr) (cdv ct : Value) (us : List Value) (hl : us.length = (["order"] : List Str).length) : bindArgs (PySem.W.fnOf "lower_sets" "lower_sets" (defArgs s_lower_sets) (defBody s_lower_sets) (defScope s_lower_sets) .none kV doc pm an cdv ct) ⟨us, []⟩ = pure ((["order"] : List Str).zip us) := match us, hl with | [_], _ => by kernel_rfl
theorem sc_Order_is_antichain : FnScope ["self", "bits", "x"] ["self", "bits"] (defScope s_Order_is_antichain) := ⟨by kernel_rfl, by kernel_rfl, by kernel_rfl, by decide +kernel, by kernel_rfl, by decide +kernel, by decide +kernel⟩
theorem bi_Order_is_antichain (kV doc pm : Value) (an : Option Addr) (cdv ct : Value) (us : List Value) (hl : us.length = (["self", "bits"] : List Str).length) : bindArgs (PySem.W.fnOf "is_antichain" "Order.is_antichain" (defArgs s_Order_is_antichain) (defBody s_Order_is_antichain) (defScope s_Order_is_antichain) .none kV doc pm an cdv ct) ⟨us, []⟩ = pure ((["self", "bits"] : List Str).zip us) := match us, hl with | [_, _], _ => by kernel_rfl
theorem sc_steps_between : FnScope ["order", "strict", "sets", "found", "one", "row", "j"] ["order", "strict"] (defScope s_steps_between) := ⟨by kernel_rfl, by kernel_rfl, by kernel_rfl, by decide +kernel, by kernel_rfl, by decide +kernel, by decide +kernel⟩
theorem bi_steps_between (kV doc pm : Value) (an : Option Addr) (cdv ct : Value) (us : List Value) (hl : us.length = (["order", "strict"] : List Str).length) : bindArgs (PySem.W.fnOf "steps_between" "steps_between" (defArgs s_steps_between) (defBody s_steps_between) (defScope s_steps_between) .none kV doc pm an cdv ct) ⟨us, []⟩ = pure ((["order", "strict"] : List Str).zip us) := match us, hl with | [_, _], _ => by kernel_rfl
theorem sc_trimmed : FnScope ["row", "size"] ["row"] (defScope s_trimmed) := ⟨by kernel_rfl, by kernel_rfl, by kernel_rfl, by decide +kernel, by kernel_rfl, by decide +kernel, by decide +kernel⟩
theorem bi_trimmed (kV doc pm : Value) (an : Option Addr) (cdv ct : Value) (us : List Value) (hl : us.length = (["row"] : List Str).length) : bindArgs (PySem.W.fnOf "trimmed" "trimmed" (defArgs s_trimmed) (defBody s_trimmed) (defScope s_trimmed) .none kV doc pm an cdv ct) ⟨us, []⟩ = pure ((["row"] : List Str).zip us) := match us, hl with | [_], _ => by kernel_rfl
theorem sc_onto_counts : FnScope ["order", "strict", "steps", "ways", "found", "_", "following", "i", "j"] ["order", "strict"] (defScope s_onto_counts) := ⟨by kernel_rfl, by kernel_rfl, by kernel_rfl, by decide +kernel, by kernel_rfl, by decide +kernel, by decide +kernel⟩
theorem bi_onto_counts (kV doc pm : Value) (an : Option Addr) (cdv ct : Value) (us : List Value) (hl : us.length = (["order", "strict"] : List Str).length) : bindArgs (PySem.W.fnOf "onto_counts" "onto_counts" (defArgs s_onto_counts) (defBody s_onto_counts) (defScope s_onto_counts) .none kV doc pm an cdv ct) ⟨us, []⟩ = pure ((["order", "strict"] : List Str).zip us) := match us, hl with | [_, _], _ => by kernel_rfl
theorem sc_order_polynomial : FnScope ["order"] ["order"] (defScope s_order_polynomial) := ⟨by kernel_rfl, by kernel_rfl, by kernel_rfl, by decide +kernel, by kernel_rfl, by decide +kernel, by decide +kernel⟩
theorem bi_order_polynomial (kV doc pm : Value) (an : Option Addr) (cdv ct : Value) (us : List Value) (hl : us.length = (["order"] : List Str).length) : bindArgs (PySem.W.fnOf "order_polynomial" "order_polynomial" (defArgs s_order_polynomial) (defBody s_order_polynomial) (defScope s_order_polynomial) .none kV doc pm an cdv ct) ⟨us, []⟩ = pure ((["order"] : List Str).zip us) := match us, hl with | [_], _ => by kernel_rfl
theorem sc_strict_polynomial : FnScope ["order"] ["order"] (defScope s_strict_polynomial) := ⟨by kernel_rfl, by kernel_rfl, by kernel_rfl, by decide +kernel, by kernel_rfl, by decide +kernel, by decide +kernel⟩
theorem bi_strict_polynomial (kV doc pm : Value) (an : Option Addr) (cdv ct : Value) (us : List Value) (hl : us.length = (["order"] : List Str).length) : bindArgs (PySem.W.fnOf "strict_polynomial" "strict_polynomial" (defArgs s_strict_polynomial) (defBody s_strict_polynomial) (defScope s_strict_polynomial) .none kV doc pm an cdv ct) ⟨us, []⟩ = pure ((["order"] : List Str).zip us) := match us, hl with | [_], _ => by kernel_rfl
theorem sc_binomial : FnScope ["k", "j", "value", "i"] ["k", "j"] (defScope s_binomial) := ⟨by kernel_rfl, by kernel_rfl, by kernel_rfl, by decide +kernel, by kernel_rfl, by decide +kernel, by decide +kernel⟩
theorem bi_binomial (kV doc pm : Value) (an : Option Addr) (cdv ct : Value) (us : List Value) (hl : us.length = (["k", "j"] : List Str).length) : bindArgs (PySem.W.fnOf "binomial" "binomial" (defArgs s_binomial) (defBody s_binomial) (defScope s_binomial) .none kV doc pm an cdv ct) ⟨us, []⟩ = pure ((["k", "j"] : List Str).zip us) := match us, hl with | [_, _], _ => by kernel_rfl
theorem sc_value_at : FnScope ["coefficients", "k", "j"] ["coefficients", "k"] (defScope s_value_at) := ⟨by kernel_rfl, by kernel_rfl, by kernel_rfl, by decide +kernel, by kernel_rfl, by decide +kernel, by decide +kernel⟩
theorem bi_value_at (kV doc pm : Value) (an : Option Addr) (cdv ct : Value) (us : List Value) (hl : us.length = (["coefficients", "k"] : List Str).length) : bindArgs (PySem.W.fnOf "value_at" "value_at" (defArgs s_value_at) (defBody s_value_at) (defScope s_value_at) .none kV doc pm an cdv ct) ⟨us, []⟩ = pure ((["coefficients", "k"] : List Str).zip us) := match us, hl with | [_, _], _ => by kernel_rfl
theorem sc_law : FnScope ["_law_script", "_law_numbers_here", "_law_order_here", "_law_n", "_law_k", "_law_plain", "_law_strict", "_law_onto", "_law_whole", "_law_narrow", "_law_m"] ["_law_script"] (defScope s_law) := ⟨by kernel_rfl, by kernel_rfl, by kernel_rfl, by decide +kernel, by kernel_rfl, by decide +kernel, by decide +kernel⟩
section
variable {P : Program} {w : World} {K : PySem.W.Frag} {mg : Str → Option Value} {base : Heap}
theorem ok_law_numbers (T : TX P K mg) : OkC P w K mg base (He.fAd K ("_law_numbers", none)) ["_law_script"] 1 (spF K (He.ga K) 1 none DC.F_law_numbers) := fn_okD (kio := none) (body := DC.B_law_numbers) T.d_law_numbers sc_law_numbers bi_law_numbers fun cdv A outer s H E hr =>
  (dss_cons (ds_set (i := 1) sc_law_numbers.nd (by kernel_rfl) (.inl (by kernel_rfl)) (de_lst da_nil))
  (dss_cons (ds_for passes_cx rfl (di_rng1 gl_of T.m_range (de_min2 rfl gl_of T.m_min (de_len gl_of T.m_len PySem.boot_len (dp_de (de_var (pvl 0)))) de_int)) (dg_name (i := 2) sc_law_numbers.nd (by kernel_rfl) (.inl (by kernel_rfl)) (.inl rfl)) (dss_cons (ds_set (i := 3) sc_law_numbers.nd (by kernel_rfl) (.inl (by kernel_rfl)) (de_abs gl_of T.m_abs PyProof.Rows.boot_abs (dp_de (de_ix (de_var (pvl 0)) (de_var (pvl 2))))))
  (dss_one (ds_if (dt_cr cr_ge (de_var (pvl 3)) (de_pow de_int de_int)) (dss_one (ds_for passes_cx rfl (di_rng1 gl_of T.m_range de_int) (dg_name (i := 4) sc_law_numbers.nd (by kernel_rfl) (.inl (by kernel_rfl)) (.inl rfl)) (dss_one (ds_if (dt_cr cr_gt (de_var (pvl 3)) de_int) (dss_cons (ds_append (pvl 1) (de_mod (de_var (pvl 3)) de_int))
  (dss_one (ds_set (i := 3) sc_law_numbers.nd (by kernel_rfl) (.inl (by kernel_rfl)) (de_fdiv (de_var (pvl 3)) de_int)))) dss_nil)) (by decide))) (dss_one (ds_for passes_cx rfl (di_rng1 gl_of T.m_range de_int) (dg_name (i := 5) sc_law_numbers.nd (by kernel_rfl) (.inl (by kernel_rfl)) (.inl rfl)) (dss_cons (ds_set (i := 3) sc_law_numbers.nd (by kernel_rfl) (.inl (by kernel_rfl)) (de_mod (de_add (de_add (de_mul (de_var (pvl 3)) de_int) (de_mul de_int (de_add (de_var (pvl 5)) (de_var (pvl 2))))) de_int) de_int))
  (dss_cons (ds_set (i := 6) sc_law_numbers.nd (by kernel_rfl) (.inl (by kernel_rfl)) (de_mod (de_add (de_mul (de_var (pvl 3)) de_int) (de_fdiv (de_var (pvl 3)) de_int)) de_int))
  (dss_one (ds_append (pvl 1) (de_mod (de_var (pvl 6)) de_int))))) (by decide)))))) (by decide))
  (dss_one (ds_retMv (pvl 1)))))
theorem ok_law_next (T : TX P K mg) : OkC P w K mg base (He.fAd K ("_law_next", none)) ["_law_numbers_here", "_law_many"] 1 (spF K (He.ga K) 2 (some 0) DC.F_law_next) := fn_okD (kio := (some 0)) (body := DC.B_law_next) T.d_law_next sc_law_next bi_law_next fun cdv A outer s H E hr =>
  (dss_cons (ds_if (dt_cr (cr_eq hr.units) (de_len gl_of T.m_len PySem.boot_len (dp_peek (pvl 0))) de_int) (dss_one (ds_ret de_int)) dss_nil)
  (dss_one (ds_ret (de_mod (de_popAt (pvl 0) de_int) (de_var (pvl 1))))))
theorem ok_has (T : TX P K mg) : OkC P w K mg base (He.fAd K ("has", none)) ["bits", "x"] 1 (spF K (He.ga K) 2 none DC.F_has) := fn_okD (kio := none) (body := DC.B_has) T.d_has sc_has bi_has fun cdv A outer s H E hr =>
  (dss_one (ds_ret (de_cr (cr_eq hr.units) (de_and (de_shr (de_var (pvl 0)) (de_var (pvl 1))) de_int) de_int)))
theorem ok_u_closed (T : TX P K mg) : OkC P w K mg base (He.fAd K ("_closed", none)) ["n", "pairs"] 3 (spF K (He.ga K) 2 none DC.F_u_closed) := fn_okD (kio := none) (body := DC.B_u_closed) T.d_u_closed sc_u_closed bi_u_closed fun cdv A outer s H E hr =>
  (dss_cons (ds_set (i := 2) sc_u_closed.nd (by kernel_rfl) (.inl (by kernel_rfl)) (de_mul (de_lst (da_cons de_int da_nil)) (de_var (pvl 0))))
  (dss_cons (ds_for passes_cx rfl (di_of (de_var (pvl 1))) (dg_tup rfl (.cons (pg_name (i := 3) sc_u_closed.nd (by kernel_rfl) (.inl (by kernel_rfl)) (.inl rfl)) (.cons (pg_name (i := 4) sc_u_closed.nd (by kernel_rfl) (.inl (by kernel_rfl)) (.inl rfl)) .nil (by kernel_rfl)) (by kernel_rfl)) rfl) (dss_one (ds_sub (de_or (de_ixS (pvl 2) (de_var (pvl 3))) (de_shl de_int (de_var (pvl 4)))) (pvl 2) (de_var (pvl 3)))) (by decide))
  (dss_cons (ds_frzN 2 (ds_for passes_cx rfl (di_rng1 gl_of T.m_range (de_var (pvl 0))) (dg_name (i := 4) sc_u_closed.nd (by kernel_rfl) (.inl (by kernel_rfl)) (.inl rfl)) (dss_one (ds_for passes_cx rfl (di_rng1 gl_of T.m_range (de_var (pvl 0))) (dg_name (i := 3) sc_u_closed.nd (by kernel_rfl) (.inl (by kernel_rfl)) (.inl rfl)) (dss_one (ds_if (dt_val (de_callG (ok_has T) (hr.mono (by decide)) gl_of T.m_has takes_cx (da_cons (de_ixS (pvl 2) (de_var (pvl 3))) (da_cons (de_var (pvl 4)) da_nil)))) (dss_one (ds_sub (de_or (de_ixS (pvl 2) (de_var (pvl 3))) (de_ixS (pvl 2) (de_var (pvl 4)))) (pvl 2) (de_var (pvl 3)))) dss_nil)) (by decide))) (by decide)))
  (dss_cons (ds_for passes_cx rfl (di_rng1 gl_of T.m_range (de_var (pvl 0))) (dg_name (i := 3) sc_u_closed.nd (by kernel_rfl) (.inl (by kernel_rfl)) (.inl rfl)) (dss_one (ds_if (dt_val (de_callG (ok_has T) (hr.mono (by decide)) gl_of T.m_has takes_cx (da_cons (de_ix (de_var (pvl 2)) (de_var (pvl 3))) (da_cons (de_var (pvl 3)) da_nil)))) (dss_one (ds_raiseV rfl takes_cx (T.r_Refused _ _) (hr.mono (by decide)) gl_of T.m_Refused de_str)) dss_nil)) (by decide))
  (dss_one (ds_ret (de_tuple gl_of T.m_tuple PySem.Pv.boot_tuple (dp_de (de_var (pvl 2))))))))))
theorem ok_is_integer (T : TX P K mg) : OkC P w K mg base (He.fAd K ("is_integer", none)) ["value"] 1 (spF K (He.ga K) 1 none DC.F_is_integer) := fn_okD (kio := none) (body := DC.B_is_integer) T.d_is_integer sc_is_integer bi_is_integer fun cdv A outer s H E hr =>
  (dss_one (ds_ret (de_and2 (de_isi (T := "int") gl_of T.m_isinstance gl_of T.m_int PySem.Pv.boot_int (by decide) (dp_de (de_var (pvl 0)))) (de_one (de_notV (de_isi (T := "bool") gl_of T.m_isinstance gl_of T.m_bool PySem.Pv.boot_bool (by decide) (dp_de (de_var (pvl 0)))))))))
theorem ok_u_checked_pairs (T : TX P K mg) : OkC P w K mg base (He.fAd K ("_checked_pairs", none)) ["n", "pairs"] 2 (spF K (He.ga K) 2 none DC.F_u_checked_pairs) := fn_okD (kio := none) (body := DC.B_u_checked_pairs) T.d_u_checked_pairs sc_u_checked_pairs bi_u_checked_pairs fun cdv A outer s H E hr =>
  (dss_cons (ds_if (dt_not (dt_val (de_isi2 (T := "list") (U := "tuple") gl_of T.m_isinstance gl_of T.m_list PySem.Pv.boot_list (by decide) gl_of T.m_tuple PySem.Pv.boot_tuple (by decide) (dp_de (de_var (pvl 1)))))) (dss_one (ds_raise rfl takes_cx T.e_Malformed gl_of T.m_Malformed)) dss_nil)
  (dss_cons (ds_set (i := 2) sc_u_checked_pairs.nd (by kernel_rfl) (.inl (by kernel_rfl)) (de_lst da_nil))
  (dss_cons (ds_frzN 2 (ds_for passes_cx rfl (di_of (de_var (pvl 1))) (dg_name (i := 3) sc_u_checked_pairs.nd (by kernel_rfl) (.inl (by kernel_rfl)) (.inl rfl)) (dss_cons (ds_if (dt_w (dw_or (dt_not (dt_val (de_isi (T := "tuple") gl_of T.m_isinstance gl_of T.m_tuple PySem.Pv.boot_tuple (by decide) (dp_de (de_var (pvl 3)))))) (dw_or1 (dt_cr (cr_ne hr.units) (de_len gl_of T.m_len PySem.boot_len (dp_de (de_var (pvl 3)))) de_int)))) (dss_one (ds_raise rfl takes_cx T.e_Malformed gl_of T.m_Malformed)) dss_nil)
  (dss_cons (ds_for passes_cx rfl (di_of (de_var (pvl 3))) (dg_name (i := 4) sc_u_checked_pairs.nd (by kernel_rfl) (.inl (by kernel_rfl)) (.inl rfl)) (dss_one (ds_if (dt_w (dw_or (dt_not (dt_val (de_callG (ok_is_integer T) (hr.mono (by decide)) gl_of T.m_is_integer takes_cx (da_cons (de_var (pvl 4)) da_nil)))) (dw_or (dt_cr cr_lt (de_var (pvl 4)) de_int) (dw_or1 (dt_cr cr_ge (de_var (pvl 4)) (de_var (pvl 0))))))) (dss_one (ds_raise rfl takes_cx T.e_Malformed gl_of T.m_Malformed)) dss_nil)) (by decide))
  (dss_one (ds_append (pvl 2) (de_var (pvl 3)))))) (by decide)))
  (dss_one (ds_ret (de_var (pvl 2)))))))
theorem ok_OrderU_initU (T : TX P K mg) : OkC P w K mg base (He.fAd K ("Order", some "__init__")) ["self", "n", "pairs"] 4 (spF K (He.ga K) 3 (some 0) DC.F_OrderU_initU) := fn_okD (kio := (some 0)) (body := DC.B_OrderU_initU) T.d_OrderU_initU sc_OrderU_initU bi_OrderU_initU fun cdv A outer s H E hr =>
  (dss_cons (ds_if (dt_w (dw_or (dt_not (dt_val (de_callG (ok_is_integer T) (hr.mono (by decide)) gl_of T.m_is_integer takes_cx (da_cons (de_var (pvl 1)) da_nil)))) (dw_or1 (dt_cr cr_lt (de_var (pvl 1)) de_int)))) (dss_one (ds_raise rfl takes_cx T.e_Malformed gl_of T.m_Malformed)) dss_nil)
  (dss_cons (ds_if (dt_cr cr_gt (de_var (pvl 1)) (let ⟨t, e⟩ := T.m_MOST; de_glob (a := .int 10) gl_of e ⟨t, rfl⟩)) (dss_one (ds_raiseV rfl takes_cx (T.r_Refused _ _) (hr.mono (by decide)) gl_of T.m_Refused de_str)) dss_nil)
  (dss_cons (ds_fld T.c_Order T.n_Order_n (pvl 0) (de_var (pvl 1)))
  (dss_one (ds_fld T.c_Order T.n_Order_above (pvl 0) (de_callG (ok_u_closed T) (hr.mono (by decide)) gl_of T.m__closed takes_cx (da_cons (de_var (pvl 1)) (da_cons (de_callG (ok_u_checked_pairs T) (hr.mono (by decide)) gl_of T.m__checked_pairs takes_cx (da_cons (de_var (pvl 1)) (da_cons (de_var (pvl 2)) da_nil))) da_nil))))))))
theorem ok_law_order (T : TX P K mg) : OkC P w K mg base (He.fAd K ("_law_order", none)) ["_law_numbers_here", "_law_most"] 6 (spF K (He.ga K) 2 (some 0) DC.F_law_order) := fn_okD (kio := (some 0)) (body := DC.B_law_order) T.d_law_order sc_law_order bi_law_order fun cdv A outer s H E hr =>
  (dss_cons (ds_set (i := 2) sc_law_order.nd (by kernel_rfl) (.inl (by kernel_rfl)) (de_callLG (ok_law_next T) (hr.mono (by decide)) gl_of T.m__law_next takes_cx (da_lent (pvl 0) (da_cons (de_add (de_var (pvl 1)) de_int) da_nil))))
  (dss_cons (ds_set (i := 3) sc_law_order.nd (by kernel_rfl) (.inl (by kernel_rfl)) (de_lst da_nil))
  (dss_cons (ds_setLc (i := 4) (own := [("_law_k", 10)]) rfl sc_law_order.nd (by kernel_rfl) (by kernel_rfl) (sw_true (by kernel_rfl) (by kernel_rfl) (by kernel_rfl) (by kernel_rfl)) (di_rng1 gl_of T.m_range (de_var (pvl 2))) (blkOk_by (by kernel_rfl)) (by decide) (fun _ _ _ _ _ => (dg_name (i := 10) sc_law_order.nd (by kernel_rfl) (.inl (by kernel_rfl)) (.inr (by kernel_rfl)))) (fun _ _ _ _ _ => dts_nil) (fun _ _ _ _ _ => (de_var (pvl 10))))
  (dss_cons (ds_frzN 4 (ds_frzN 3 (ds_for passes_cx rfl (di_rng1 gl_of T.m_range (de_var (pvl 2))) (dg_name (i := 5) sc_law_order.nd (by kernel_rfl) (.inl (by kernel_rfl)) (.inl rfl)) (dss_one (ds_append (pvl 3) (de_popAt (pvl 4) (de_callLG (ok_law_next T) (hr.mono (by decide)) gl_of T.m__law_next takes_cx (da_lent (pvl 0) (da_cons (de_len gl_of T.m_len PySem.boot_len (dp_peek (pvl 4))) da_nil)))))) (by decide))))
  (dss_cons (ds_set (i := 6) sc_law_order.nd (by kernel_rfl) (.inl (by kernel_rfl)) (de_add de_int (de_callLG (ok_law_next T) (hr.mono (by decide)) gl_of T.m__law_next takes_cx (da_lent (pvl 0) (da_cons de_int da_nil)))))
  (dss_cons (ds_set (i := 7) sc_law_order.nd (by kernel_rfl) (.inl (by kernel_rfl)) (de_lst da_nil))
  (dss_cons (ds_frzN 7 (ds_for passes_cx rfl (di_rng1 gl_of T.m_range (de_var (pvl 2))) (dg_name (i := 8) sc_law_order.nd (by kernel_rfl) (.inl (by kernel_rfl)) (.inl rfl)) (dss_one (ds_for passes_cx rfl (di_rng1 gl_of T.m_range (de_var (pvl 8))) (dg_name (i := 9) sc_law_order.nd (by kernel_rfl) (.inl (by kernel_rfl)) (.inl rfl)) (dss_one (ds_if (dt_cr (cr_eq hr.units) (de_callLG (ok_law_next T) (hr.mono (by decide)) gl_of T.m__law_next takes_cx (da_lent (pvl 0) (da_cons (de_var (pvl 6)) da_nil))) de_int) (dss_one (ds_append (pvl 7) (de_tup (da_cons (de_ix (de_var (pvl 3)) (de_var (pvl 9))) (da_cons (de_ix (de_var (pvl 3)) (de_var (pvl 8))) da_nil))))) dss_nil)) (by decide))) (by decide)))
  (dss_one (ds_ret (de_makeG T.c_Order T.k_Order (ok_OrderU_initU T) (hr.mono (by decide)) gl_of T.m_Order takes_cx (da_cons (de_var (pvl 2)) (da_cons (de_var (pvl 7)) da_nil))))))))))))
theorem ok_Order_size (T : TX P K mg) : OkC P w K mg base (He.fAd K ("Order", some "size")) ["self"] 1 (spF K (He.ga K) 1 none DC.F_Order_size) := fn_okD (kio := none) (body := DC.B_Order_size) T.d_Order_size sc_Order_size bi_Order_size fun cdv A outer s H E hr =>
  (dss_one (ds_ret (de_fld (dp_de (de_var (pvl 0))))))
theorem ok_members (T : TX P K mg) : OkC P w K mg base (He.fAd K ("members", none)) ["bits"] 1 (spF K (He.ga K) 1 none DC.F_members) := fn_okD (kio := none) (body := DC.B_members) T.d_members sc_members bi_members fun cdv A outer s H E hr =>
  (dss_one (ds_ret (de_tuple gl_of T.m_tuple PySem.Pv.boot_tuple (dp_de (de_lc (own := [("x", 1)]) rfl sc_members.nd (di_rng1 gl_of T.m_range (de_bits (de_var (pvc 0)))) (blkOk_by (by kernel_rfl)) (by decide) (fun _ _ _ _ _ => (dg_name (i := 1) sc_members.nd (by kernel_rfl) (.inl (by kernel_rfl)) (.inr (by kernel_rfl)))) (fun _ _ _ _ _ => (dts_one (dt_cr (cr_eq hr.units) (de_and (de_shr (de_var (pvc 0)) (de_var (pvl 1))) de_int) de_int))) (fun _ _ _ _ _ => (de_var (pvl 1))))))))
theorem ok_Order_pairs (T : TX P K mg) : OkC P w K mg base (He.fAd K ("Order", some "pairs")) ["self"] 2 (spF K (He.ga K) 1 none DC.F_Order_pairs) := fn_okD (kio := none) (body := DC.B_Order_pairs) T.d_Order_pairs sc_Order_pairs bi_Order_pairs fun cdv A outer s H E hr =>
  (dss_cons (ds_set (i := 1) sc_Order_pairs.nd (by kernel_rfl) (.inl (by kernel_rfl)) (de_lst da_nil))
  (dss_cons (ds_frzN 1 (ds_for passes_cx rfl (di_rng1 gl_of T.m_range (de_fld (dp_de (de_var (pvl 0))))) (dg_name (i := 2) sc_Order_pairs.nd (by kernel_rfl) (.inl (by kernel_rfl)) (.inl rfl)) (dss_one (ds_for passes_cx rfl (di_of (de_callG (ok_members T) (hr.mono (by decide)) gl_of T.m_members takes_cx (da_cons (de_ix (de_fld (dp_de (de_var (pvl 0)))) (de_var (pvl 2))) da_nil))) (dg_name (i := 3) sc_Order_pairs.nd (by kernel_rfl) (.inl (by kernel_rfl)) (.inl rfl)) (dss_one (ds_append (pvl 1) (de_tup (da_cons (de_var (pvl 2)) (da_cons (de_var (pvl 3)) da_nil))))) (by decide))) (by decide)))
  (dss_one (ds_ret (de_tuple gl_of T.m_tuple PySem.Pv.boot_tuple (dp_de (de_var (pvl 1))))))))
theorem ok_law_maps (T : TX P K mg) : OkC P w K mg base (He.fAd K ("_law_maps", none)) ["_law_order_here", "_law_k"] 2 (spF K (He.ga K) 2 none DC.F_law_maps) := fn_okD (kio := none) (body := DC.B_law_maps) T.d_law_maps sc_law_maps bi_law_maps fun cdv A outer s H E hr =>
  (dss_cons (ds_set (i := 2) sc_law_maps.nd (by kernel_rfl) (.inl (by kernel_rfl)) (de_meth0G (de_var (pvl 0)) T.c_Order T.q_Order_size (ok_Order_size T) (hr.mono (by decide)) takes_cx))
  (dss_cons (ds_set (i := 3) sc_law_maps.nd (by kernel_rfl) (.inl (by kernel_rfl)) (de_fz (de_lst (da_cons (de_tup da_nil) da_nil))))
  (dss_cons (ds_for passes_cx rfl (di_rng1 gl_of T.m_range (de_var (pvl 2))) (dg_name (i := 4) sc_law_maps.nd (by kernel_rfl) (.inl (by kernel_rfl)) (.inl rfl)) (dss_cons (ds_set (i := 5) sc_law_maps.nd (by kernel_rfl) (.inl (by kernel_rfl)) (de_lst da_nil))
  (dss_cons (ds_frzN 5 (ds_for passes_cx rfl (di_of (de_fz (de_list gl_of T.m_list PySem.Pv.boot_list (dp_de (de_var (pvl 3)))))) (dg_name (i := 6) sc_law_maps.nd (by kernel_rfl) (.inl (by kernel_rfl)) (.inl rfl)) (dss_one (ds_for passes_cx rfl (di_rng2 gl_of T.m_range de_int (de_add (de_var (pvl 1)) de_int)) (dg_name (i := 7) sc_law_maps.nd (by kernel_rfl) (.inl (by kernel_rfl)) (.inl rfl)) (dss_one (ds_append (pvl 5) (de_add (de_var (pvl 6)) (de_tup (da_cons (de_var (pvl 7)) da_nil))))) (by decide))) (by decide)))
  (dss_one (ds_set (i := 3) sc_law_maps.nd (by kernel_rfl) (.inl (by kernel_rfl)) (de_var (pvl 5)))))) (by decide))
  (dss_one (ds_ret (de_var (pvl 3)))))))
theorem ok_law_counts (T : TX P K mg) : OkC P w K mg base (He.fAd K ("_law_counts", none)) ["_law_order_here", "_law_k"] 3 (spF K (He.ga K) 2 none DC.F_law_counts) := fn_okD (kio := none) (body := DC.B_law_counts) T.d_law_counts sc_law_counts bi_law_counts fun cdv A outer s H E hr =>
  (dss_cons (ds_set (i := 2) sc_law_counts.nd (by kernel_rfl) (.inl (by kernel_rfl)) de_int)
  (dss_cons (ds_set (i := 3) sc_law_counts.nd (by kernel_rfl) (.inl (by kernel_rfl)) de_int)
  (dss_cons (ds_set (i := 4) sc_law_counts.nd (by kernel_rfl) (.inl (by kernel_rfl)) de_int)
  (dss_cons (ds_set (i := 5) sc_law_counts.nd (by kernel_rfl) (.inl (by kernel_rfl)) (de_meth0G (de_var (pvl 0)) T.c_Order T.q_Order_pairs (ok_Order_pairs T) (hr.mono (by decide)) takes_cx))
  (dss_cons (ds_for passes_cx rfl (di_of (de_callG (ok_law_maps T) (hr.mono (by decide)) gl_of T.m__law_maps takes_cx (da_cons (de_var (pvl 0)) (da_cons (de_var (pvl 1)) da_nil)))) (dg_name (i := 6) sc_law_counts.nd (by kernel_rfl) (.inr (by kernel_rfl)) (.inl rfl)) (dss_one (ds_if (dt_cr (cr_eq hr.units) (de_len gl_of T.m_len PySem.boot_len (dp_de (de_lc (own := [("_law_pair", 7)]) rfl sc_law_counts.nd (di_of (de_var (pvl 5))) (blkOk_by (by kernel_rfl)) (by decide) (fun _ _ _ _ _ => (dg_name (i := 7) sc_law_counts.nd (by kernel_rfl) (.inl (by kernel_rfl)) (.inr (by kernel_rfl)))) (fun _ _ _ _ _ => (dts_one (dt_cr cr_gt (de_ix (de_var (pvc 6)) (de_ix (de_var (pvl 7)) de_int)) (de_ix (de_var (pvc 6)) (de_ix (de_var (pvl 7)) de_int))))) (fun _ _ _ _ _ => (de_var (pvl 7)))))) de_int) (dss_cons (ds_set (i := 2) sc_law_counts.nd (by kernel_rfl) (.inl (by kernel_rfl)) (de_add (de_var (pvl 2)) de_int))
  (dss_cons (ds_if (dt_cr (cr_eq hr.units) (de_len gl_of T.m_len PySem.boot_len (dp_de (de_lc (own := [("_law_value", 8)]) rfl sc_law_counts.nd (di_rng2 gl_of T.m_range de_int (de_add (de_var (pvl 1)) de_int)) (blkOk_by (by kernel_rfl)) (by decide) (fun _ _ _ _ _ => (dg_name (i := 8) sc_law_counts.nd (by kernel_rfl) (.inl (by kernel_rfl)) (.inr (by kernel_rfl)))) (fun _ _ _ _ _ => (dts_one (dt_notin (room_u1 hr) (de_var (pvl 8)) (dp_de (de_var (pvc 6)))))) (fun _ _ _ _ _ => (de_var (pvl 8)))))) de_int) (dss_one (ds_set (i := 4) sc_law_counts.nd (by kernel_rfl) (.inl (by kernel_rfl)) (de_add (de_var (pvl 4)) de_int))) dss_nil)
  (dss_one (ds_if (dt_cr (cr_eq hr.units) (de_len gl_of T.m_len PySem.boot_len (dp_de (de_lc (own := [("_law_pair", 7)]) rfl sc_law_counts.nd (di_of (de_var (pvl 5))) (blkOk_by (by kernel_rfl)) (by decide) (fun _ _ _ _ _ => (dg_name (i := 7) sc_law_counts.nd (by kernel_rfl) (.inl (by kernel_rfl)) (.inr (by kernel_rfl)))) (fun _ _ _ _ _ => (dts_one (dt_cr (cr_eq hr.units) (de_ix (de_var (pvc 6)) (de_ix (de_var (pvl 7)) de_int)) (de_ix (de_var (pvc 6)) (de_ix (de_var (pvl 7)) de_int))))) (fun _ _ _ _ _ => (de_var (pvl 7)))))) de_int) (dss_one (ds_set (i := 3) sc_law_counts.nd (by kernel_rfl) (.inl (by kernel_rfl)) (de_add (de_var (pvl 3)) de_int))) dss_nil)))) dss_nil)) (by decide))
  (dss_one (ds_ret (de_tup (da_cons (de_var (pvl 2)) (da_cons (de_var (pvl 3)) (da_cons (de_var (pvl 4)) da_nil)))))))))))
theorem ok_set_of (T : TX P K mg) : OkC P w K mg base (He.fAd K ("set_of", none)) ["points"] 1 (spF K (He.ga K) 1 none DC.F_set_of) := fn_okD (kio := none) (body := DC.B_set_of) T.d_set_of sc_set_of bi_set_of fun cdv A outer s H E hr =>
  (dss_cons (ds_set (i := 1) sc_set_of.nd (by kernel_rfl) (.inl (by kernel_rfl)) de_int)
  (dss_cons (ds_for passes_cx rfl (di_of (de_var (pvl 0))) (dg_name (i := 2) sc_set_of.nd (by kernel_rfl) (.inl (by kernel_rfl)) (.inl rfl)) (dss_one (ds_set (i := 1) sc_set_of.nd (by kernel_rfl) (.inl (by kernel_rfl)) (de_or (de_var (pvl 1)) (de_shl de_int (de_var (pvl 2)))))) (by decide))
  (dss_one (ds_ret (de_var (pvl 1))))))
theorem ok_Order_below (T : TX P K mg) : OkC P w K mg base (He.fAd K ("Order", some "below")) ["self"] 2 (spF K (He.ga K) 1 none DC.F_Order_below) := fn_okD (kio := none) (body := DC.B_Order_below) T.d_Order_below sc_Order_below bi_Order_below fun cdv A outer s H E hr =>
  (dss_one (ds_ret (de_tuple gl_of T.m_tuple PySem.Pv.boot_tuple (dp_de (de_lc (own := [("y", 1)]) rfl sc_Order_below.nd (di_rng1 gl_of T.m_range (de_fld (dp_de (de_var (pvc 0))))) (blkOk_by (by kernel_rfl)) (by decide) (fun _ _ _ _ _ => (dg_name (i := 1) sc_Order_below.nd (by kernel_rfl) (.inr (by kernel_rfl)) (.inl (by kernel_rfl)))) (fun _ _ _ _ _ => dts_nil) (fun _ _ _ _ _ => (de_callG (ok_set_of T) (hr.mono (by decide)) gl_of T.m_set_of takes0 (da_cons (de_lc (own := [("x", 2)]) rfl sc_Order_below.nd (di_rng1 gl_of T.m_range (de_fld (dp_de (de_var (pvc 0))))) (blkOk_by (by kernel_rfl)) (by decide) (fun _ _ _ _ _ => (dg_name (i := 2) sc_Order_below.nd (by kernel_rfl) (.inl (by kernel_rfl)) (.inr (by kernel_rfl)))) (fun _ _ _ _ _ => (dts_one (dt_val (de_callG (ok_has T) (hr.mono (by decide)) gl_of T.m_has takes0 (da_cons (de_ix (de_fld (dp_de (de_var (pvc 0)))) (de_var (pvl 2))) (da_cons (de_var (pvc 1)) da_nil)))))) (fun _ _ _ _ _ => (de_var (pvl 2)))) da_nil))))))))
theorem ok_count (T : TX P K mg) : OkC P w K mg base (He.fAd K ("count", none)) ["bits"] 2 (spF K (He.ga K) 1 none DC.F_count) := fn_okD (kio := none) (body := DC.B_count) T.d_count sc_count bi_count fun cdv A outer s H E hr =>
  (dss_one (ds_ret (de_len gl_of T.m_len PySem.boot_len (dp_de (de_callG (ok_members T) (hr.mono (by decide)) gl_of T.m_members takes_cx (da_cons (de_var (pvl 0)) da_nil))))))
theorem ok_lower_sets (T : TX P K mg) : OkC P w K mg base (He.fAd K ("lower_sets", none)) ["order"] 3 (spF K (He.ga K) 1 none DC.F_lower_sets) := fn_okD (kio := none) (body := DC.B_lower_sets) T.d_lower_sets sc_lower_sets bi_lower_sets fun cdv A outer s H E hr =>
  (dss_cons (ds_set (i := 1) sc_lower_sets.nd (by kernel_rfl) (.inl (by kernel_rfl)) (de_sub (de_shl de_int (de_meth0G (de_var (pvl 0)) T.c_Order T.q_Order_size (ok_Order_size T) (hr.mono (by decide)) takes_cx)) de_int))
  (dss_cons (ds_set (i := 2) sc_lower_sets.nd (by kernel_rfl) (.inr (by kernel_rfl)) (de_meth0G (de_var (pvl 0)) T.c_Order T.q_Order_below (ok_Order_below T) (hr.mono (by decide)) takes_cx))
  (dss_cons (ds_set (i := 3) sc_lower_sets.nd (by kernel_rfl) (.inl (by kernel_rfl)) (de_lst da_nil))
  (dss_cons (ds_frzN 3 (ds_forG passes_cx rfl xeG_cx (de_var (pvl 1)) T.d_parts ip_parts (by kernel_rfl) (by kernel_rfl) (by kernel_rfl) (by kernel_rfl) (by kernel_rfl) (fun _ _ => by kernel_rfl) bi_parts hr gl_of T.m_parts (dg_name (i := 4) sc_lower_sets.nd (by kernel_rfl) (.inr (by kernel_rfl)) (.inl rfl)) (dss_one (ds_if (dt_val (de_all rfl gl_of T.m_all (dp_de (de_lc (own := [("x", 6)]) rfl sc_lower_sets.nd (di_of (de_callG (ok_members T) (hr.mono (by decide)) gl_of T.m_members takes_cx (da_cons (de_var (pvc 4)) da_nil))) (blkOk_by (by kernel_rfl)) (by decide) (fun _ _ _ _ _ => (dg_name (i := 6) sc_lower_sets.nd (by kernel_rfl) (.inl (by kernel_rfl)) (.inr (by kernel_rfl)))) (fun _ _ _ _ _ => dts_nil) (fun _ _ _ _ _ => (de_cr (cr_eq hr.units) (de_and (de_ix (de_var (pvc 2)) (de_var (pvl 6))) (de_var (pvc 4))) (de_ix (de_var (pvc 2)) (de_var (pvl 6))))))))) (dss_one (ds_append (pvl 3) (de_tup (da_cons (de_callG (ok_count T) (hr.mono (by decide)) gl_of T.m_count takes_cx (da_cons (de_var (pvc 4)) da_nil)) (da_cons (de_var (pvc 4)) da_nil))))) dss_nil)) (by decide)))
  (dss_one (ds_ret (de_tuple gl_of T.m_tuple PySem.Pv.boot_tuple (dp_de (de_lc (own := [("_", 5), ("s", 4)]) rfl sc_lower_sets.nd (di_of (de_fz (de_sortU gl_of T.m_sorted (dp_de (de_var (pvl 3)))))) (blkOk_by (by kernel_rfl)) (by decide) (fun _ _ _ _ _ => (dg_tup rfl (.cons (pg_name (i := 5) sc_lower_sets.nd (by kernel_rfl) (.inl (by kernel_rfl)) (.inr (by kernel_rfl))) (.cons (pg_name (i := 4) sc_lower_sets.nd (by kernel_rfl) (.inl (by kernel_rfl)) (.inr (by kernel_rfl))) .nil (by kernel_rfl)) (by kernel_rfl)) rfl)) (fun _ _ _ _ _ => dts_nil) (fun _ _ _ _ _ => (de_var (pvl 4))))))))))))
theorem ok_Order_is_antichain (T : TX P K mg) : OkC P w K mg base (He.fAd K ("Order", some "is_antichain")) ["self", "bits"] 2 (spF K (He.ga K) 2 none DC.F_Order_is_antichain) := fn_okD (kio := none) (body := DC.B_Order_is_antichain) T.d_Order_is_antichain sc_Order_is_antichain bi_Order_is_antichain fun cdv A outer s H E hr =>
  (dss_one (ds_ret (de_cr (cr_eq hr.units) (de_len gl_of T.m_len PySem.boot_len (dp_de (de_lc (own := [("x", 2)]) rfl sc_Order_is_antichain.nd (di_of (de_callG (ok_members T) (hr.mono (by decide)) gl_of T.m_members takes_cx (da_cons (de_var (pvc 1)) da_nil))) (blkOk_by (by kernel_rfl)) (by decide) (fun _ _ _ _ _ => (dg_name (i := 2) sc_Order_is_antichain.nd (by kernel_rfl) (.inl (by kernel_rfl)) (.inr (by kernel_rfl)))) (fun _ _ _ _ _ => (dts_one (dt_cr (cr_ne hr.units) (de_and (de_ix (de_fld (dp_de (de_var (pvc 0)))) (de_var (pvl 2))) (de_var (pvc 1))) de_int))) (fun _ _ _ _ _ => (de_var (pvl 2)))))) de_int)))
theorem ok_steps_between (T : TX P K mg) : OkC P w K mg base (He.fAd K ("steps_between", none)) ["order", "strict"] 4 (spF K (He.ga K) 2 none DC.F_steps_between) := fn_okD (kio := none) (body := DC.B_steps_between) T.d_steps_between sc_steps_between bi_steps_between fun cdv A outer s H E hr =>
  (dss_cons (ds_set (i := 2) sc_steps_between.nd (by kernel_rfl) (.inl (by kernel_rfl)) (de_callG (ok_lower_sets T) (hr.mono (by decide)) gl_of T.m_lower_sets takes_cx (da_cons (de_var (pvl 0)) da_nil)))
  (dss_cons (ds_set (i := 3) sc_steps_between.nd (by kernel_rfl) (.inl (by kernel_rfl)) (de_lst da_nil))
  (dss_cons (ds_frzN 3 (ds_for passes_cx rfl (di_of (de_var (pvl 2))) (dg_name (i := 4) sc_steps_between.nd (by kernel_rfl) (.inl (by kernel_rfl)) (.inl rfl)) (dss_cons (ds_set (i := 5) sc_steps_between.nd (by kernel_rfl) (.inl (by kernel_rfl)) (de_lst da_nil))
  (dss_cons (ds_frzN 5 (ds_for passes_cx rfl (di_rng1 gl_of T.m_range (de_len gl_of T.m_len PySem.boot_len (dp_de (de_var (pvl 2))))) (dg_name (i := 6) sc_steps_between.nd (by kernel_rfl) (.inl (by kernel_rfl)) (.inl rfl)) (dss_one (ds_if (dt_w (dw_and (dt_cr (cr_ne hr.units) (de_ix (de_var (pvl 2)) (de_var (pvl 6))) (de_var (pvl 4))) (dw_and1 (dt_cr (cr_eq hr.units) (de_and (de_var (pvl 4)) (de_inv (de_ix (de_var (pvl 2)) (de_var (pvl 6))))) de_int)))) (dss_one (ds_if (dt_w (dw_or (dt_not (dt_val (de_var (pvl 1)))) (dw_or1 (dt_val (de_methG (de_var (pvl 0)) T.c_Order T.q_Order_is_antichain (ok_Order_is_antichain T) (hr.mono (by decide)) takes_cx (da_cons (de_and (de_ix (de_var (pvl 2)) (de_var (pvl 6))) (de_inv (de_var (pvl 4)))) da_nil)))))) (dss_one (ds_append (pvl 5) (de_var (pvl 6)))) dss_nil)) dss_nil)) (by decide)))
  (dss_one (ds_append (pvl 3) (de_var (pvl 5)))))) (by decide)))
  (dss_one (ds_ret (de_var (pvl 3)))))))
theorem ok_trimmed (T : TX P K mg) : OkC P w K mg base (He.fAd K ("trimmed", none)) ["row"] 1 (spF K (He.ga K) 1 none DC.F_trimmed) := fn_okD (kio := none) (body := DC.B_trimmed) T.d_trimmed sc_trimmed bi_trimmed fun cdv A outer s H E hr =>
  (dss_cons (ds_set (i := 1) sc_trimmed.nd (by kernel_rfl) (.inl (by kernel_rfl)) (de_len gl_of T.m_len PySem.boot_len (dp_de (de_var (pvl 0)))))
  (dss_cons (ds_while 100000 passes_cx (dt_w (dw_and (dt_cr cr_gt (de_var (pvl 1)) de_int) (dw_and1 (dt_cr (cr_eq hr.units) (de_ix (de_var (pvl 0)) (de_sub (de_var (pvl 1)) de_int)) de_int)))) (dss_one (ds_set (i := 1) sc_trimmed.nd (by kernel_rfl) (.inl (by kernel_rfl)) (de_sub (de_var (pvl 1)) de_int))))
  (dss_one (ds_ret (de_tuple gl_of T.m_tuple PySem.Pv.boot_tuple (dp_de (de_slice (de_var (pvl 0)) do_none (do_some (de_var (pvl 1))))))))))
theorem ok_onto_counts (T : TX P K mg) : OkC P w K mg base (He.fAd K ("onto_counts", none)) ["order", "strict"] 5 (spF K (He.ga K) 2 none DC.F_onto_counts) := fn_okD (kio := none) (body := DC.B_onto_counts) T.d_onto_counts sc_onto_counts bi_onto_counts fun cdv A outer s H E hr =>
  (dss_cons (ds_set (i := 2) sc_onto_counts.nd (by kernel_rfl) (.inl (by kernel_rfl)) (de_fz (de_callG (ok_steps_between T) (hr.mono (by decide)) gl_of T.m_steps_between takes_cx (da_cons (de_var (pvl 0)) (da_cons (de_var (pvl 1)) da_nil)))))
  (dss_cons (ds_frzN 3 (ds_setLc (i := 3) (own := [("i", 7)]) rfl sc_onto_counts.nd (by kernel_rfl) (by kernel_rfl) (sw_true (by kernel_rfl) (by kernel_rfl) (by kernel_rfl) (by kernel_rfl)) (di_rng1 gl_of T.m_range (de_len gl_of T.m_len PySem.boot_len (dp_de (de_var (pvl 2))))) (blkOk_by (by kernel_rfl)) (by decide) (fun _ _ _ _ _ => (dg_name (i := 7) sc_onto_counts.nd (by kernel_rfl) (.inl (by kernel_rfl)) (.inr (by kernel_rfl)))) (fun _ _ _ _ _ => dts_nil) (fun _ _ _ _ _ => (de_intc gl_of T.m_int PySem.Pv.boot_int (dp_de (de_cr (cr_eq hr.units) (de_var (pvl 7)) de_int))))))
  (dss_cons (ds_set (i := 4) sc_onto_counts.nd (by kernel_rfl) (.inl (by kernel_rfl)) (de_lst da_nil))
  (dss_cons (ds_frzN 4 (ds_for passes_cx rfl (di_rng1 gl_of T.m_range (de_add (de_meth0G (de_var (pvl 0)) T.c_Order T.q_Order_size (ok_Order_size T) (hr.mono (by decide)) takes_cx) de_int)) (dg_name (i := 5) sc_onto_counts.nd (by kernel_rfl) (.inl (by kernel_rfl)) (.inl rfl)) (dss_cons (ds_append (pvl 4) (de_ix (de_var (pvl 3)) (de_neg de_int)))
  (dss_cons (ds_setLc (i := 6) (own := [("_", 5)]) rfl sc_onto_counts.nd (by kernel_rfl) (by kernel_rfl) (sw_true (by kernel_rfl) (by kernel_rfl) (by kernel_rfl) (by kernel_rfl)) (di_of (de_var (pvl 2))) (blkOk_by (by kernel_rfl)) (by decide) (fun _ _ _ _ _ => (dg_name (i := 5) sc_onto_counts.nd (by kernel_rfl) (.inl (by kernel_rfl)) (.inr (by kernel_rfl)))) (fun _ _ _ _ _ => dts_nil) (fun _ _ _ _ _ => de_int))
  (dss_cons (ds_frzN 6 (ds_for passes_cx rfl (di_rng1 gl_of T.m_range (de_len gl_of T.m_len PySem.boot_len (dp_de (de_var (pvl 2))))) (dg_name (i := 7) sc_onto_counts.nd (by kernel_rfl) (.inl (by kernel_rfl)) (.inl rfl)) (dss_one (ds_for passes_cx rfl (di_of (de_ix (de_var (pvl 2)) (de_var (pvl 7)))) (dg_name (i := 8) sc_onto_counts.nd (by kernel_rfl) (.inl (by kernel_rfl)) (.inl rfl)) (dss_one (ds_sub (de_add (de_ixS (pvl 6) (de_var (pvl 8))) (de_ix (de_var (pvl 3)) (de_var (pvl 7)))) (pvl 6) (de_var (pvl 8)))) (by decide))) (by decide)))
  (dss_one (ds_set (i := 3) sc_onto_counts.nd (by kernel_rfl) (.inl (by kernel_rfl)) (de_var (pvl 6))))))) (by decide)))
  (dss_one (ds_ret (de_callG (ok_trimmed T) (hr.mono (by decide)) gl_of T.m_trimmed takes_cx (da_cons (de_var (pvl 4)) da_nil))))))))
theorem ok_order_polynomial (T : TX P K mg) : OkC P w K mg base (He.fAd K ("order_polynomial", none)) ["order"] 6 (spF K (He.ga K) 1 none DC.F_order_polynomial) := fn_okD (kio := none) (body := DC.B_order_polynomial) T.d_order_polynomial sc_order_polynomial bi_order_polynomial fun cdv A outer s H E hr =>
  (dss_one (ds_ret (de_callG (ok_onto_counts T) (hr.mono (by decide)) gl_of T.m_onto_counts takes_cx (da_cons (de_var (pvl 0)) (da_cons de_bl da_nil)))))
theorem ok_strict_polynomial (T : TX P K mg) : OkC P w K mg base (He.fAd K ("strict_polynomial", none)) ["order"] 6 (spF K (He.ga K) 1 none DC.F_strict_polynomial) := fn_okD (kio := none) (body := DC.B_strict_polynomial) T.d_strict_polynomial sc_strict_polynomial bi_strict_polynomial fun cdv A outer s H E hr =>
  (dss_one (ds_ret (de_callG (ok_onto_counts T) (hr.mono (by decide)) gl_of T.m_onto_counts takes_cx (da_cons (de_var (pvl 0)) (da_cons de_bl da_nil)))))
theorem ok_binomial (T : TX P K mg) : OkC P w K mg base (He.fAd K ("binomial", none)) ["k", "j"] 1 (spF K (He.ga K) 2 none DC.F_binomial) := fn_okD (kio := none) (body := DC.B_binomial) T.d_binomial sc_binomial bi_binomial fun cdv A outer s H E hr =>
  (dss_cons (ds_set (i := 2) sc_binomial.nd (by kernel_rfl) (.inl (by kernel_rfl)) de_int)
  (dss_cons (ds_for passes_cx rfl (di_rng1 gl_of T.m_range (de_var (pvl 1))) (dg_name (i := 3) sc_binomial.nd (by kernel_rfl) (.inl (by kernel_rfl)) (.inl rfl)) (dss_one (ds_set (i := 2) sc_binomial.nd (by kernel_rfl) (.inl (by kernel_rfl)) (de_fdiv (de_mul (de_var (pvl 2)) (de_sub (de_var (pvl 0)) (de_var (pvl 3)))) (de_add (de_var (pvl 3)) de_int)))) (by decide))
  (dss_one (ds_ret (de_var (pvl 2))))))
theorem ok_value_at (T : TX P K mg) : OkC P w K mg base (He.fAd K ("value_at", none)) ["coefficients", "k"] 2 (spF K (He.ga K) 2 none DC.F_value_at) := fn_okD (kio := none) (body := DC.B_value_at) T.d_value_at sc_value_at bi_value_at fun cdv A outer s H E hr =>
  (dss_one (ds_ret (de_sum rfl gl_of T.m_sum (dp_de (de_lc (own := [("j", 2)]) rfl sc_value_at.nd (di_rng1 gl_of T.m_range (de_len gl_of T.m_len PySem.boot_len (dp_de (de_var (pvc 0))))) (blkOk_by (by kernel_rfl)) (by decide) (fun _ _ _ _ _ => (dg_name (i := 2) sc_value_at.nd (by kernel_rfl) (.inl (by kernel_rfl)) (.inr (by kernel_rfl)))) (fun _ _ _ _ _ => dts_nil) (fun _ _ _ _ _ => (de_mul (de_ix (de_var (pvc 0)) (de_var (pvl 2))) (de_callG (ok_binomial T) (hr.mono (by decide)) gl_of T.m_binomial takes0 (da_cons (de_var (pvc 1)) (da_cons (de_var (pvl 2)) da_nil))))))))))
theorem ok_law (T : TX P K mg) {fd : FuncData} {fa : Addr} (FD : FunD K d_law.name d_law.qual d_law.params d_law.body d_law.scope [] [] fa fd) : FnOk P w K mg base (L2.CX P w) 7 fa fd ["_law_script"] (spF K (He.ga K) 1 none F_law) := fn_okF (kio := none) (body := B_law) FD sc_law fun cdv A outer s H E hr =>
  (dss_cons (ds_set (i := 1) sc_law.nd (by kernel_rfl) (.inl (by kernel_rfl)) (de_callG (ok_law_numbers T) (hr.mono (by decide)) gl_of T.m__law_numbers takes_cx (da_cons (de_var (pvl 0)) da_nil)))
  (dss_cons (ds_set (i := 2) sc_law.nd (by kernel_rfl) (.inl (by kernel_rfl)) (de_fz (de_callLG (ok_law_order T) (hr.mono (by decide)) gl_of T.m__law_order takes_cx (da_lent (pvl 1) (da_cons de_int da_nil)))))
  (dss_cons (ds_set (i := 3) sc_law.nd (by kernel_rfl) (.inl (by kernel_rfl)) (de_meth0G (de_var (pvl 2)) T.c_Order T.q_Order_size (ok_Order_size T) (hr.mono (by decide)) takes_cx))
  (dss_cons (ds_frzN 1 (ds_set (i := 4) sc_law.nd (by kernel_rfl) (.inl (by kernel_rfl)) (de_callLG (ok_law_next T) (hr.mono (by decide)) gl_of T.m__law_next takes_cx (da_lent (pvl 1) (da_cons de_int da_nil)))))
  (dss_cons (ds_asg (dg_tup rfl (.cons (pg_name (i := 5) sc_law.nd (by kernel_rfl) (.inl (by kernel_rfl)) (.inl rfl)) (.cons (pg_name (i := 6) sc_law.nd (by kernel_rfl) (.inl (by kernel_rfl)) (.inl rfl)) (.cons (pg_name (i := 7) sc_law.nd (by kernel_rfl) (.inl (by kernel_rfl)) (.inl rfl)) .nil (by kernel_rfl)) (by kernel_rfl)) (by kernel_rfl)) rfl) (de_fz (de_callG (ok_law_counts T) (hr.mono (by decide)) gl_of T.m__law_counts takes_cx (da_cons (de_var (pvl 2)) (da_cons (de_var (pvl 4)) da_nil)))) (by decide))
  (dss_cons (ds_set (i := 8) sc_law.nd (by kernel_rfl) (.inl (by kernel_rfl)) (de_callG (ok_order_polynomial T) (hr.mono (by decide)) gl_of T.m_order_polynomial takes_cx (da_cons (de_var (pvl 2)) da_nil)))
  (dss_cons (ds_set (i := 9) sc_law.nd (by kernel_rfl) (.inl (by kernel_rfl)) (de_callG (ok_strict_polynomial T) (hr.mono (by decide)) gl_of T.m_strict_polynomial takes_cx (da_cons (de_var (pvl 2)) da_nil)))
  (dss_cons (ds_if (dt_w (dw_or (dt_cr (cr_ne hr.units) (de_callG (ok_value_at T) (hr.mono (by decide)) gl_of T.m_value_at takes_cx (da_cons (de_var (pvl 8)) (da_cons (de_var (pvl 4)) da_nil))) (de_var (pvl 5))) (dw_or1 (dt_cr (cr_ne hr.units) (de_callG (ok_value_at T) (hr.mono (by decide)) gl_of T.m_value_at takes_cx (da_cons (de_var (pvl 9)) (da_cons (de_var (pvl 4)) da_nil))) (de_var (pvl 6)))))) (dss_one (ds_ret de_bl)) dss_nil)
  (dss_cons (ds_if (dt_w (dw_and (dt_cr cr_lt (de_var (pvl 4)) (de_len gl_of T.m_len PySem.boot_len (dp_de (de_var (pvl 8))))) (dw_and1 (dt_cr (cr_ne hr.units) (de_ix (de_var (pvl 8)) (de_var (pvl 4))) (de_var (pvl 7)))))) (dss_one (ds_ret de_bl)) dss_nil)
  (dss_cons (ds_if (dt_w (dw_and (dt_cr cr_ge (de_var (pvl 4)) (de_len gl_of T.m_len PySem.boot_len (dp_de (de_var (pvl 8))))) (dw_and1 (dt_cr (cr_ne hr.units) (de_var (pvl 7)) de_int)))) (dss_one (ds_ret de_bl)) dss_nil)
  (dss_cons (ds_for passes_cx rfl (di_rng2 gl_of T.m_range de_int de_int) (dg_name (i := 10) sc_law.nd (by kernel_rfl) (.inl (by kernel_rfl)) (.inl rfl)) (dss_one (ds_if (dt_cr (cr_ne hr.units) (de_callG (ok_value_at T) (hr.mono (by decide)) gl_of T.m_value_at takes_cx (da_cons (de_var (pvl 9)) (da_cons (de_var (pvl 10)) da_nil))) (de_mul (de_callG (ok_value_at T) (hr.mono (by decide)) gl_of T.m_value_at takes_cx (da_cons (de_var (pvl 8)) (da_cons (de_neg (de_var (pvl 10))) da_nil))) (de_sub de_int (de_mul de_int (de_mod (de_var (pvl 3)) de_int))))) (dss_one (ds_ret de_bl)) dss_nil)) (by decide))
  (dss_one (ds_ret (de_and2 (de_cr (cr_ne hr.units) (de_ix (de_var (pvl 8)) (de_neg de_int)) de_int) (de_and2 (de_cr (cr_ne hr.units) (de_ix (de_var (pvl 9)) (de_neg de_int)) de_int) (de_and2 (de_cr (cr_eq hr.units) (de_len gl_of T.m_len PySem.boot_len (dp_de (de_var (pvl 8)))) (de_add (de_var (pvl 3)) de_int)) (de_one (de_cr (cr_eq hr.units) (de_len gl_of T.m_len PySem.boot_len (dp_de (de_var (pvl 9)))) (de_add (de_var (pvl 3)) de_int)))))))))))))))))))
end
end G29
namespace G29
open PySem L2 DL PyProof.Rows
theorem facts {P : Program} {w : World} {K : PySem.W.Frag} {h : Heap} {mg : Str → Option Value} {f : Addr} (X : K.In h) (G : h.Ns mainGlobals mg) (hfa : mg ("law" : Str) = some (.ref f)) (c : DL.SaysY file fa fn es ys K) (hpf : P.main.file = file) (hpt : (P.main.scope.names.lookup ("super" : Str)).isSome = false) :
    ∃ fd : FuncData, (∀ (s : Shared) (v : Value), BindsTo s fd ⟨[v], []⟩ [("_law_script", v)]) ∧ ∀ base : Heap, K.In base → base.Ns mainGlobals mg → FnOk P w K mg base (L2.CX P w) 7 f fd ["_law_script"] (spF K (He.ga K) 1 none F_law) := by
  have T : TX P K mg := ⟨c, hpf, hpt, h, X, G⟩
  obtain ⟨fd, F⟩ := T.d_law
  have e := hfa.symm.trans (He.glo_ok X G (c.d.fact 47 (f := .glo "law") rfl))
  cases e
  have b := FunD.bindsA (ps := ["_law_script"]) F fun _ _ _ _ _ _ us hl => match us, hl with | [_], _ => by kernel_rfl
  exact ⟨fd, fun s v => b s [v] rfl, fun base _ _ => ok_law T F⟩
end G29
open PySem PySem.W PySem.Calls PyProof.Rows
set_option maxRecDepth 100000 in
set_option maxHeartbeats 0 in
theorem PySem.Challenge.cw_orderforms_k29_whole_order_polynomials_holds : PySem.Challenge.rw_orderforms_k29_whole_order_polynomials.Holds := by
  w_on; o_law
  refine HandSHeadRun.head_any (r := OpenLaw.row PySem.Challenge.rw_orderforms_k29_whole_order_polynomials) (q := view (OpenLaw.row PySem.Challenge.rw_orderforms_k29_whole_order_polynomials).prog [34]) (H := G29.hk) (ob := G29.ob) (M := 6000) (loose := G29.names) (d := HandSHeadRun.topDef (OpenLaw.row PySem.Challenge.rw_orderforms_k29_whole_order_polynomials).prog 34) (kwd := []) G29.ob_eq
    (by kernel_rfl) (fun s => by kernel_rfl) G29.run (by kernel_rfl) (by kernel_rfl) (by kernel_rfl) (by rfl) (by first | assumption | decide +kernel) (by decide +kernel) ⟨rfl, rfl, rfl, rfl, rfl, by decide +kernel⟩ ?hw ?hc
  case hw => w_witness2
  case hc =>
    refine DL.law_end (l := PySem.Challenge.rw_orderforms_k29_whole_order_polynomials) (k := 7) (x := "_law_script") (cA := He.ga) (F := G29.F_law) rfl (by kernel_rfl) ⟨rfl, by decide, by decide⟩ ?HF G29.law_true
    intro w mg fa h Y G hmg0
    obtain ⟨K, KX, c⟩ := Y
    have hmg : mg ("law" : PySem.Str) = some (.ref fa) := by
      have e : (HandSHeadRun.topDef (OpenLaw.row PySem.Challenge.rw_orderforms_k29_whole_order_polynomials).prog 34).name = ("law" : PySem.Str) := by kernel_rfl
      rw [← e]
      exact hmg0
    obtain ⟨fd, hb, hF⟩ := G29.facts (P := (PySem.Challenge.rw_orderforms_k29_whole_order_polynomials).prog) (w := w) KX G hmg c (by kernel_rfl) (by kernel_rfl)
    exact ⟨K, fd, KX, hb, hF⟩
