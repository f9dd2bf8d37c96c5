import PyProof.Rows.All
import Wide.All
import OpenK.AllK
import Wide.FinOn
import HandS.ForMost
import HandS.ForExc
import HandS.TupMul
import HandS.TupAny
import HandS.Conv
import HandS.Strs
import HandS.Deep
import HandS.Style
import HandS.WideBits
import HandS.IsInst
import HandS.Text
import HandS.Iter
import HandS.HeadEnd
import HandS.HeadHook2
import HandS.EndBits
import HandS.SortInts
import HandS.More
import HandS.Head0
import HandS.Head1
import HandS.Head2
import HandS.Nested
import HandS.ExcInit
import KE.KExcSuper
import HandS.TryMany
import HandS.ExcField
import HandS.ExcIs
import HandS.ExcOwn
import HandS.List
import OpenK.KMeth
import KE.KOpsOwn
import KE.KTupSum
import KE.GoesEnum
import HandS.TupSets
import KE.KExcIs
import HandS.DictComp
import HandS.TupLe
import PySem.Challenge.RW_orderforms_k00_sets_as_bits
import HandS.HeadHook1
import HandS.GenList
import KE.OsArith
import KE.BitLaws
import KE.IntBitsLaws
set_option Elab.async false
set_option linter.all false
set_option maxRecDepth 100000
set_option maxHeartbeats 0
namespace L2
open PySem PySem.Spec PyProof.Rows
def NewT (H : Hp) (xs : List V) (Q : VK) : Prop := ∀ p ob, H p = none → ob.dict = none → Q (.ref p) (upd H p (.frz ob (.tup xs)))
abbrev tupO (us : List Value) : Obj := { cls := .type "tuple", data := .seq us.toArray }
section
variable {X : Cx} {pins : List (Addr × Obj)} {σ : St} {H : Hp} {s : Shared} {xs ys : List V} {us : List Value} {Q : VK} {tk : Nat}
theorem lay_tup (I : Inv X pins σ H s) (z : xs.length ≤ sizeLine) (r : Vals xs us) (q : NewT H xs Q) : EP X pins σ Q (.ref s.heap.objs.size) { s with heap := s.heap.push (tupO us), toks := tk } := by
  have hn := I.hok.fresh (Nat.le_refl _)
  have ok : ObjOk X.prog X.w (upd H s.heap.objs.size (.frz (tupO us) (.tup xs))) (s.heap.push (tupO us)) s.heap.objs.size (.frz (tupO us) (.tup xs)) :=
    ⟨Heap.get?_push_size _ rfl, z, us, r, IsTup.new s.heap us.toArray⟩
  have J := I.laid (t' := tk) (fun c u => Heap.get?_push_of_some _) (Nat.le_refl _) ok
  exact ⟨V.ref s.heap.objs.size, _, J, rfl, q _ (tupO us) hn rfl⟩
def tTupN (t : TA) : TE := fun σ H Q => t σ H fun xs H1 => xs.length ≤ sizeLine ∧ NewT H1 xs Q
theorem pe_tupN {es : List Expr} {t : TA} {pos : Pos} {x1} (h : PA X es t) : PE X (.Tuple es x1 pos) (tTupN t) := by
  constructor
  intro pins s σ H Q I hq
  apply wpAny_Tuple_spliced
  refine thn (h.run pos pins s σ H _ I hq) ?_
  rintro us s1 ⟨xs, H1, I1, r, z, q⟩
  have hz : us.length ≤ sizeLine := by rw [← r.length]; exact z
  exact ⟨hz, lay_tup (tk := s1.toks) I1 z r q⟩
def rTupOf (K : PySem.W.Frag) : List V → Hp → VK → Prop := fun xs H Q => ∃ p ys, xs = [.ref p] ∧ ((SqL K H p ys ∧ NewT H ys Q) ∨ (SqT K H p ys ∧ Q (.ref p) H))
theorem call_tupleN : CallR X (.type "tuple") (rTupOf X.K) := by
  rintro pins s σ H xs us Q I r ⟨p, ys, rfl, h⟩
  obtain ⟨u, rfl, rx⟩ := vals1 r
  cases rx
  obtain ⟨hq, q⟩ | ⟨hq, q⟩ := h
  · obtain ⟨its, r', pl, hz⟩ := I.list hq
    have hs : its.toArray.size ≤ sizeLine := by rw [List.size_toArray, ← r'.length]; exact hz
    refine call_tuple_list pl.isList (fun h' kp => ?_) hs
    exact lay_tup (tk := s.toks) (s := { s with heap := h' }) (I.kept (t' := s.toks) kp) hz r' q
  · obtain ⟨its, r', pl, hz⟩ := I.tuple hq
    exact call_tuple_same pl ⟨V.ref p, H, I, rfl, q⟩
def rCatN (K : PySem.W.Frag) : R2 := fun x y H Q => ∃ a b xs ys, x = .ref a ∧ y = .ref b ∧ SqT K H a xs ∧ SqT K H b ys ∧ xs.length + ys.length ≤ sizeLine ∧
  (xs = [] → Q (.ref b) H) ∧ (xs ≠ [] → ys = [] → Q (.ref a) H) ∧ (xs ≠ [] → ys ≠ [] → NewT H (xs ++ ys) Q)
theorem op_catN : OpR X (binaryOp .Add) (rCatN X.K) := by
  rintro pins s σ H x y v u Q I rx ry ⟨a, b, xs, ys, rfl, rfl, ha, hb, hz, q0, q1, q2⟩
  cases rx
  cases ry
  obtain ⟨is, r1, p1, z1⟩ := I.tuple ha
  obtain ⟨js, r2, p2, z2⟩ := I.tuple hb
  have l1 := r1.length
  have l2 := r2.length
  cases hx : xs with
  | nil =>
    subst hx
    cases r1
    exact cat_tup0 p1 p2 ⟨V.ref b, H, I, rfl, q0 rfl⟩
  | cons x0 xs0 =>
    have hne : xs ≠ [] := by rw [hx]; simp
    have h0 : is ≠ [] := fun z => hne (r1.nil_iff.mp z)
    refine HT.cat_tup p1 p2 h0 (fun z => ?_) (fun z => ?_) (by omega)
    · exact ⟨V.ref a, H, I, rfl, q1 hne (r2.nil_iff.mp z)⟩
    · exact lay_tup (tk := s.toks) I (by rw [List.length_append]; exact hz) (r1.append r2) (q2 hne fun w => z (r2.nil_iff.mpr w))
def rSlN (K : PySem.W.Frag) : V → Option Int → Option Int → Hp → VK → Prop := fun x lo hi H Q => ∃ a xs, x = .ref a ∧ SqT K H a xs ∧
  (HT.sIx xs.length 0 lo = 0 ∧ HT.sIx xs.length xs.length hi = xs.length → Q (.ref a) H) ∧ (¬ (HT.sIx xs.length 0 lo = 0 ∧ HT.sIx xs.length xs.length hi = xs.length) → NewT H (cutV xs lo hi) Q)
theorem sl_tupN : SlR X (rSlN X.K) := by
  rintro pins s σ H x v vl vu lo hi sl Q I rx hs pl pu ⟨a, xs, rfl, hx, q1, q2⟩
  cases rx
  obtain ⟨is, r, ht, hz⟩ := I.tuple hx
  have hl : is.toArray.size = xs.length := by rw [List.size_toArray, ← r.length]
  refine ⟨"tuple", _, PyProof.Rows.slot_tuple_getitem.lookup, ht.typeIs, ?_⟩
  by_cases hw : HT.sIx xs.length 0 lo = 0 ∧ HT.sIx xs.length xs.length hi = xs.length
  · exact getItem_tuple_whole ht hs pl pu (by rw [hl]; exact hw) ⟨V.ref a, H, I, rfl, q1 hw⟩
  · refine HT.getItem_tuple_cut ht hs pl pu (fun z => hw (by rw [hl] at z; exact z)) ?_ (by omega)
    rw [hl]
    exact lay_tup (tk := s.toks) I (Nat.le_trans (cutV_length xs lo hi) hz) ((r.drop _).take _) (q2 hw)
end
end L2
namespace DL
open PySem L2
inductive At where
  | non | bl (b : Bool) | int (i : Int) | str (s : Str)
  deriving DecidableEq
def At.v : At → V
  | .non => V.non
  | .bl b => V.bl b
  | .int i => V.int i
  | .str s => V.str s
inductive Xt where
  | kt | dt (ks : List (List Key)) | dl (ks : List (List Key))
  deriving DecidableEq
inductive Kd where
  | tup | lst | scr | dct (ks : List Key) | ins (C : Str) (fs : List Str) | xt (t : Xt)
  deriving DecidableEq
inductive D where
  | a (x : At)
  | n (k : Kd) (o : Bool) (xs : List D)
abbrev D.int (i : Int) : D := .a (.int i)
abbrev D.bl (b : Bool) : D := .a (.bl b)
abbrev D.str (s : Str) : D := .a (.str s)
abbrev D.non : D := .a .non
abbrev D.tup (xs : List D) : D := .n .tup false xs
abbrev D.lst (o : Bool) (xs : List D) : D := .n .lst o xs
abbrev D.scr (xs : List D) : D := .n .scr false xs
mutual
def frz : D → D
  | .a x => .a x
  | .n k _ xs => .n k false (frzL xs)
def frzL : List D → List D
  | [] => []
  | x :: xs => frz x :: frzL xs
end
mutual
def isF : D → Bool
  | .a _ => true
  | .n _ o xs => !o && isFL xs
def isFL : List D → Bool
  | [] => true
  | x :: xs => isF x && isFL xs
end
mutual
theorem isF_frz : ∀ d : D, isF (frz d) = true
  | .a _ => rfl
  | .n k o xs => by
    show (!false && isFL (frzL xs)) = true
    rw [isFL_frzL xs]; rfl
theorem isFL_frzL : ∀ xs : List D, isFL (frzL xs) = true
  | [] => rfl
  | x :: xs => by
    show (isF (frz x) && isFL (frzL xs)) = true
    rw [isF_frz x, isFL_frzL xs]; rfl
end
mutual
theorem frz_isF : ∀ d : D, isF d = true → frz d = d
  | .a _, _ => rfl
  | .n k o xs, h => by
    have h : (!o && isFL xs) = true := h
    rw [Bool.and_eq_true] at h
    have ho : o = false := by simpa using h.1
    subst ho
    show D.n k false (frzL xs) = _
    rw [frzL_isFL xs h.2]
theorem frzL_isFL : ∀ xs : List D, isFL xs = true → frzL xs = xs
  | [], _ => rfl
  | x :: xs, h => by
    have h : (isF x && isFL xs) = true := h
    rw [Bool.and_eq_true] at h
    show frz x :: frzL xs = _
    rw [frz_isF x h.1, frzL_isFL xs h.2]
end
abbrev FP := List Addr
abbrev ZS := Addr → Prop
def KT (K : PySem.W.Frag) (a : Addr) (xs : List V) : Prop :=
  ∃ (o : Obj) (its : Array Value) (n : Nat), K.lookup a = some o ∧ o.cls = .type "tuple" ∧ o.dict = none ∧ o.data = .seq its n ∧ its.size ≤ sizeLine ∧ Vals xs its.toList
def KLs (K : PySem.W.Frag) (a : Addr) (xs : List V) : Prop :=
  ∃ (o : Obj) (its : Array Value) (n : Nat), K.lookup a = some o ∧ o.cls = .type "list" ∧ o.dict = none ∧ o.data = .seq its n ∧ its.size ≤ sizeLine ∧ Vals xs its.toList
def TupK (K : PySem.W.Frag) (H : Hp) (Z : ZS) (p : Addr) (vs : List V) : Prop := (Z p ∧ ∃ ob, H p = some (.frz ob (.tup vs)) ∧ ob.dict = none) ∨ KT K p vs
theorem kt_sq {K : PySem.W.Frag} {H : Hp} {p : Addr} {vs : List V} (h : KT K p vs) : SqT K H p vs := by
  obtain ⟨o, its, n, a, b, _, c⟩ := h
  exact .inr ⟨o, its, n, a, b, c⟩
theorem tupK_sq {K : PySem.W.Frag} {H : Hp} {Z : ZS} {p : Addr} {vs : List V} (h : TupK K H Z p vs) : SqT K H p vs := by
  rcases h with ⟨_, ob, e, _⟩ | h
  · exact .inl (.inr ⟨ob, e⟩)
  · exact kt_sq h
def ContX (H : Hp) (Z : ZS) (p : Addr) (vs : List V) : Xt → Bool → Prop
  | .kt, o => o = false ∧ Z p ∧ H p = some (.tup vs)
  | .dt ks, o => H p = some (.dT (ks.zip vs)) ∧ ks.length = vs.length ∧ (o = false → Z p)
  | .dl ks, o => o = false ∧ Z p ∧ (∃ od, H p = some (.frz od (.dT (ks.zip vs)))) ∧ ks.length = vs.length
def Cont (K : PySem.W.Frag) (cA : Str → Addr) (H : Hp) (Z : ZS) (p : Addr) (vs : List V) : Kd → Bool → Prop
  | .tup, o => o = false ∧ TupK K H Z p vs
  | .scr, o => o = false ∧ ((Z p ∧ Rd H p (.lst vs)) ∨ KLs K p vs)
  | .lst, o => H p = some (.lst vs) ∧ (o = false → Z p)
  | .dct ks, o => H p = some (.dK (ks.zip vs)) ∧ ks.length = vs.length ∧ (o = false → Z p)
  | .xt t, o => ContX H Z p vs t o
  | .ins C fs, o => (∃ dx, H p = some (.ins (cA C) dx (fs.zip vs))) ∧ (fs.length = vs.length ∧ Cls K (cA C) ∧ ∀ f ∈ fs, NoAttr K (cA C) f) ∧ (o = false → Z p)
section
variable (K : PySem.W.Frag) (cA : Str → Addr) (H : Hp) (Z : ZS)
mutual
def RepD : D → V → FP → Prop
  | .a x, v, fp => v = x.v ∧ fp = []
  | .n k o xs, v, fp => ∃ p vs g, v = .ref p ∧ RepL xs vs g ∧ Cont K cA H Z p vs k o ∧ fp = (if o then p :: g else []) ∧ (o = false → g = [])
def RepL : List D → List V → FP → Prop
  | [], vs, g => vs = [] ∧ g = []
  | x :: xs, vs, g => ∃ v vs' f1 f2, vs = v :: vs' ∧ RepD x v f1 ∧ RepL xs vs' f2 ∧ g = f1 ++ f2
end
end
section
variable {K : PySem.W.Frag} {cA : Str → Addr} {H H' : Hp} {Z Z' : ZS}
theorem rd_mono {p : Addr} {u : HO} (hk : ∀ o, H p = some o → H' p = some o) (h : Rd H p u) : Rd H' p u := by
  rcases h with h | ⟨o, h⟩
  · exact .inl (hk _ h)
  · exact .inr ⟨o, hk _ h⟩
theorem cont_mono {p : Addr} {vs : List V} {k : Kd} {o : Bool} (hz : ∀ a, Z a → Z' a) (hk : ∀ u, (Z p ∨ o = true) → H p = some u → H' p = some u) (h : Cont K cA H Z p vs k o) : Cont K cA H' Z' p vs k o := by
  have h1 : (o = false → Z p) → ∀ u, H p = some u → H' p = some u := fun z u e => by
    cases o with
    | true => exact hk u (.inr rfl) e
    | false => exact hk u (.inl (z rfl)) e
  cases k with
  | tup =>
    obtain ⟨ho, h⟩ := h
    refine ⟨ho, ?_⟩
    rcases h with ⟨z, ob, e, d⟩ | h
    · exact .inl ⟨hz _ z, ob, hk _ (.inl z) e, d⟩
    · exact .inr h
  | scr =>
    obtain ⟨ho, h⟩ := h
    refine ⟨ho, ?_⟩
    rcases h with ⟨z, r⟩ | h
    · exact .inl ⟨hz _ z, rd_mono (fun u e => hk u (.inl z) e) r⟩
    · exact .inr h
  | lst =>
    obtain ⟨e, z⟩ := h
    exact ⟨h1 z _ e, fun q => hz _ (z q)⟩
  | dct ks =>
    obtain ⟨e, l, z⟩ := h
    exact ⟨h1 z _ e, l, fun q => hz _ (z q)⟩
  | xt t =>
    cases t with
    | kt =>
      obtain ⟨ho, z, e⟩ := h
      exact ⟨ho, hz _ z, hk _ (.inl z) e⟩
    | dt ks =>
      obtain ⟨e, l, z⟩ := h
      exact ⟨h1 z _ e, l, fun q => hz _ (z q)⟩
    | dl ks =>
      obtain ⟨ho, z, ⟨od, e⟩, l⟩ := h
      exact ⟨ho, hz _ z, ⟨od, hk _ (.inl z) e⟩, l⟩
  | ins C fs =>
    obtain ⟨⟨dx, e⟩, l, z⟩ := h
    exact ⟨⟨dx, h1 z _ e⟩, l, fun q => hz _ (z q)⟩
mutual
theorem repD_mono : ∀ (d : D) {v : V} {fp : FP}, (∀ a, Z a → Z' a) → (∀ a o, (Z a ∨ a ∈ fp) → H a = some o → H' a = some o) → RepD K cA H Z d v fp → RepD K cA H' Z' d v fp
  | .a x, _, _, _, _, h => h
  | .n k o xs, v, fp, hz, hk, h => by
    obtain ⟨p, vs, g, e, hl, hc, ef, hg⟩ := h
    subst ef
    refine ⟨p, vs, g, e, repL_mono xs hz (fun a u m => hk a u ?_) hl, cont_mono hz (fun u m => hk p u ?_) hc, rfl, hg⟩
    · cases o with
      | true => exact m.imp id fun z => by simp [z]
      | false =>
        rw [hg rfl] at m
        exact m.imp id fun z => by simp at z
    · exact m.imp id fun z => by simp [z]
theorem repL_mono : ∀ (xs : List D) {vs : List V} {fp : FP}, (∀ a, Z a → Z' a) → (∀ a o, (Z a ∨ a ∈ fp) → H a = some o → H' a = some o) → RepL K cA H Z xs vs fp → RepL K cA H' Z' xs vs fp
  | [], _, _, _, _, h => h
  | x :: xs, vs, fp, hz, hk, h => by
    obtain ⟨v, vs', f1, f2, e, h1, h2, ef⟩ := h
    subst ef
    exact ⟨v, vs', f1, f2, e, repD_mono x hz (fun a u m => hk a u (m.imp id fun z => by simp [z])) h1, repL_mono xs hz (fun a u m => hk a u (m.imp id fun z => by simp [z])) h2, rfl⟩
end
mutual
theorem repD_trk : ∀ (d : D) {v : V} {fp : FP}, RepD K cA H Z d v fp → ∀ a ∈ fp, ∃ o, H a = some o
  | .a x, _, _, h, a, ha => by
    rw [h.2] at ha; cases ha
  | .n k o xs, v, fp, h, a, ha => by
    obtain ⟨p, vs, g, e, hl, hc, ef, hg⟩ := h
    subst ef
    cases o with
    | false => simp at ha
    | true =>
      rcases List.mem_cons.mp ha with rfl | ha
      · cases k with
        | tup => exact absurd hc.1 (by decide)
        | scr => exact absurd hc.1 (by decide)
        | lst => exact ⟨_, hc.1⟩
        | dct ks => exact ⟨_, hc.1⟩
        | xt t =>
          cases t with
          | kt => exact absurd hc.1 (by decide)
          | dt ks => exact ⟨_, hc.1⟩
          | dl ks => exact absurd hc.1 (by decide)
        | ins C fs => exact let ⟨dx, e⟩ := hc.1; ⟨_, e⟩
      · exact repL_trk xs hl a ha
theorem repL_trk : ∀ (xs : List D) {vs : List V} {fp : FP}, RepL K cA H Z xs vs fp → ∀ a ∈ fp, ∃ o, H a = some o
  | [], _, _, h, a, ha => by
    rw [h.2] at ha; cases ha
  | x :: xs, vs, fp, h, a, ha => by
    obtain ⟨v, vs', f1, f2, e, h1, h2, ef⟩ := h
    subst ef
    rcases List.mem_append.mp ha with ha | ha
    · exact repD_trk x h1 a ha
    · exact repL_trk xs h2 a ha
end
mutual
theorem repD_nt : ∀ (d : D) {v : V} {fp : FP}, RepD K cA H Z d v fp → ∀ a ∈ fp, ∀ vs, H a ≠ some (.tup vs)
  | .a x, _, _, h, a, ha, ws => by
    rw [h.2] at ha; cases ha
  | .n k o xs, v, fp, h, a, ha, ws => by
    obtain ⟨p, vs, g, e, hl, hc, ef, hg⟩ := h
    subst ef
    cases o with
    | false => simp at ha
    | true =>
      rcases List.mem_cons.mp ha with rfl | ha
      · intro q
        cases k with
        | tup => exact absurd hc.1 (by decide)
        | scr => exact absurd hc.1 (by decide)
        | lst => have := hc.1; rw [q] at this; cases this
        | dct ks => have := hc.1; rw [q] at this; cases this
        | xt t =>
          cases t with
          | kt => exact absurd hc.1 (by decide)
          | dt ks => have := hc.1; rw [q] at this; cases this
          | dl ks => exact absurd hc.1 (by decide)
        | ins C fs => obtain ⟨dx, e⟩ := hc.1; rw [q] at e; cases e
      · exact repL_nt xs hl a ha ws
theorem repL_nt : ∀ (xs : List D) {vs : List V} {fp : FP}, RepL K cA H Z xs vs fp → ∀ a ∈ fp, ∀ vs, H a ≠ some (.tup vs)
  | [], _, _, h, a, ha, ws => by
    rw [h.2] at ha; cases ha
  | x :: xs, vs, fp, h, a, ha, ws => by
    obtain ⟨v, vs', f1, f2, e, h1, h2, ef⟩ := h
    subst ef
    rcases List.mem_append.mp ha with ha | ha
    · exact repD_nt x h1 a ha ws
    · exact repL_nt xs h2 a ha ws
end
mutual
theorem repD_isF : ∀ (d : D) {v : V} {fp : FP}, RepD K cA H Z d v fp → isF d = true → fp = []
  | .a x, _, _, h, _ => h.2
  | .n k o xs, v, fp, h, hf => by
    obtain ⟨p, vs, g, e, hl, hc, ef, hg⟩ := h
    have hf : (!o && isFL xs) = true := hf
    rw [Bool.and_eq_true] at hf
    have ho : o = false := by simpa using hf.1
    subst ho
    exact ef
theorem repL_isF : ∀ (xs : List D) {vs : List V} {fp : FP}, RepL K cA H Z xs vs fp → isFL xs = true → fp = []
  | [], _, _, h, _ => h.2
  | x :: xs, vs, fp, h, hf => by
    obtain ⟨v, vs', f1, f2, e, h1, h2, ef⟩ := h
    have hf : (isF x && isFL xs) = true := hf
    rw [Bool.and_eq_true] at hf
    rw [ef, repD_isF x h1 hf.1, repL_isF xs h2 hf.2]; rfl
end
mutual
theorem repD_frz : ∀ (d : D) {v : V} {fp : FP}, (∀ a, Z a → Z' a) → (∀ a ∈ fp, Z' a) → RepD K cA H Z d v fp → RepD K cA H Z' (frz d) v []
  | .a x, _, _, _, _, h => ⟨h.1, rfl⟩
  | .n k o xs, v, fp, hz, hf, h => by
    obtain ⟨p, vs, g, e, hl, hc, ef, hg⟩ := h
    subst ef
    have hgz : ∀ a ∈ g, Z' a := fun a ha => by
      cases o with
      | true => exact hf a (by simp [ha])
      | false => rw [hg rfl] at ha; cases ha
    have hp : o = true → Z' p := fun e => hf p (by simp [e])
    refine ⟨p, vs, [], e, repL_frz xs hz hgz hl, ?_, rfl, fun _ => rfl⟩
    have key : (o = false → Z p) → Z' p := fun z => by
      cases o with
      | true => exact hp rfl
      | false => exact hz _ (z rfl)
    cases k with
    | tup =>
      obtain ⟨_, h⟩ := hc
      refine ⟨rfl, ?_⟩
      rcases h with ⟨z, r⟩ | h
      · exact .inl ⟨hz _ z, r⟩
      · exact .inr h
    | scr =>
      obtain ⟨_, h⟩ := hc
      refine ⟨rfl, ?_⟩
      rcases h with ⟨z, r⟩ | h
      · exact .inl ⟨hz _ z, r⟩
      · exact .inr h
    | lst => exact ⟨hc.1, fun _ => key hc.2⟩
    | dct ks => exact ⟨hc.1, hc.2.1, fun _ => key hc.2.2⟩
    | xt t =>
      cases t with
      | kt => exact ⟨rfl, hz _ hc.2.1, hc.2.2⟩
      | dt ks => exact ⟨hc.1, hc.2.1, fun _ => key hc.2.2⟩
      | dl ks => exact ⟨rfl, hz _ hc.2.1, hc.2.2⟩
    | ins C fs => exact ⟨hc.1, hc.2.1, fun _ => key hc.2.2⟩
theorem repL_frz : ∀ (xs : List D) {vs : List V} {fp : FP}, (∀ a, Z a → Z' a) → (∀ a ∈ fp, Z' a) → RepL K cA H Z xs vs fp → RepL K cA H Z' (frzL xs) vs []
  | [], _, _, _, _, h => ⟨h.1, rfl⟩
  | x :: xs, vs, fp, hz, hf, h => by
    obtain ⟨v, vs', f1, f2, e, h1, h2, ef⟩ := h
    subst ef
    exact ⟨v, vs', [], [], e, repD_frz x hz (fun a ha => hf a (by simp [ha])) h1, repL_frz xs hz (fun a ha => hf a (by simp [ha])) h2, rfl⟩
end
theorem repL_len : ∀ {xs : List D} {vs : List V} {fp : FP}, RepL K cA H Z xs vs fp → vs.length = xs.length
  | [], _, _, h => by rw [h.1]; rfl
  | x :: xs, vs, fp, h => by
    obtain ⟨v, vs', f1, f2, e, h1, h2, ef⟩ := h
    rw [e, List.length_cons, List.length_cons, repL_len h2]
theorem repL_get : ∀ {xs : List D} {vs : List V} {fp : FP} {i : Nat} {d : D}, RepL K cA H Z xs vs fp → xs[i]? = some d → ∃ v f0 f1 f2, vs[i]? = some v ∧ RepD K cA H Z d v f1 ∧ fp = f0 ++ f1 ++ f2
  | [], _, _, _, _, _, e => by simp at e
  | x :: xs, vs, fp, 0, d, h, e => by
    obtain ⟨v, vs', f1, f2, ev, h1, h2, ef⟩ := h
    simp at e; subst e
    exact ⟨v, [], f1, f2, by rw [ev]; rfl, h1, by simpa using ef⟩
  | x :: xs, vs, fp, i + 1, d, h, e => by
    obtain ⟨v, vs', f1, f2, ev, h1, h2, ef⟩ := h
    obtain ⟨w, g0, g1, g2, hw, hr, hg⟩ := repL_get (i := i) h2 (by simpa using e)
    refine ⟨w, f1 ++ g0, g1, g2, by rw [ev]; simpa using hw, hr, ?_⟩
    rw [ef, hg]; simp
theorem repL_append : ∀ {xs ys : List D} {vs ws : List V} {f g : FP}, RepL K cA H Z xs vs f → RepL K cA H Z ys ws g → RepL K cA H Z (xs ++ ys) (vs ++ ws) (f ++ g)
  | [], ys, vs, ws, f, g, h, k => by
    rw [h.1, h.2]; exact k
  | x :: xs, ys, vs, ws, f, g, h, k => by
    obtain ⟨v, vs', f1, f2, ev, h1, h2, ef⟩ := h
    exact ⟨v, vs' ++ ws, f1, f2 ++ g, by rw [ev]; rfl, h1, repL_append h2 k, by rw [ef]; simp⟩
theorem repL_one {d : D} {v : V} {fp : FP} (h : RepD K cA H Z d v fp) : RepL K cA H Z [d] [v] fp := ⟨v, [], fp, [], rfl, h, ⟨rfl, rfl⟩, by simp⟩
end
structure Wf (H : Hp) (Z : ZS) (L : FP) : Prop where
  nd : L.Nodup
  dj : ∀ a ∈ L, ¬ Z a
  tz : ∀ a, Z a → ∃ o, H a = some o
def Nw (H : Hp) (a : Addr) : Prop := H a = none ∨ ∃ vs, H a = some (.tup vs)
structure Fr (H : Hp) (Z : ZS) (L : FP) (H' : Hp) (Z' : ZS) (L' : FP) : Prop where
  keep : ∀ a o, H a = some o → a ∉ L → H' a = some o
  zm : ∀ a, Z a → Z' a
  zs : ∀ a, Z' a → Z a ∨ a ∈ L ∨ Nw H a
  ls : ∀ a ∈ L', a ∈ L ∨ H a = none
section
variable {K : PySem.W.Frag} {cA : Str → Addr} {H H1 H2 : Hp} {Z Z1 Z2 : ZS} {L L1 L2 M fp : FP}
theorem Fr.refl : Fr H Z L H Z L := ⟨fun _ _ e _ => e, fun _ z => z, fun _ z => .inl z, fun _ h => .inl h⟩
theorem Fr.trans (a : Fr H Z L H1 Z1 L1) (b : Fr H1 Z1 L1 H2 Z2 L2) : Fr H Z L H2 Z2 L2 where
  keep := fun x o e h => b.keep x o (a.keep x o e h) fun m => by
    rcases a.ls x m with z | z
    · exact h z
    · rw [z] at e; cases e
  zm := fun x z => b.zm x (a.zm x z)
  zs := fun x z => by
    rcases b.zs x z with q | q | q
    · exact a.zs x q
    · exact .inr ((a.ls x q).imp id .inl)
    · by_cases hx : x ∈ L
      · exact .inr (.inl hx)
      · refine .inr (.inr ?_)
        cases e : H x with
        | none => exact .inl e
        | some o =>
          have e2 := a.keep x o e hx
          rcases q with q | ⟨vs, q⟩
          · rw [e2] at q; cases q
          · rw [e2] at q; cases q; exact .inr ⟨vs, e⟩
  ls := fun x m => by
    rcases b.ls x m with q | q
    · exact a.ls x q
    · by_cases hx : x ∈ L
      · exact .inl hx
      · refine .inr ?_
        cases e : H x with
        | none => rfl
        | some o => rw [a.keep x o e hx] at q; cases q
theorem Fr.less (a : Fr H Z L H1 Z1 L1) (h : ∀ x ∈ M, x ∈ L1) : Fr H Z L H1 Z1 M := ⟨a.keep, a.zm, a.zs, fun x m => a.ls x (h x m)⟩
theorem Fr.more (a : Fr H Z L H1 Z1 L1) (h : ∀ x ∈ L, x ∈ M) : Fr H Z M H1 Z1 L1 :=
  ⟨fun x o e n => a.keep x o e fun m => n (h x m), a.zm, fun x z => (a.zs x z).imp id (fun q => q.imp (h x) id), fun x m => (a.ls x m).imp (h x) id⟩
theorem Wf.less (w : Wf H Z L) (h : M.Sublist L) : Wf H Z M := ⟨w.nd.sublist h, fun a m => w.dj a (h.subset m), w.tz⟩
theorem Wf.perm (w : Wf H Z L) (h : L.Perm M) : Wf H Z M := ⟨h.nodup_iff.mp w.nd, fun a m => w.dj a (h.mem_iff.mpr m), w.tz⟩
theorem Wf.wait (w : Wf H1 Z1 (fp ++ L1)) (ht : ∀ a ∈ fp, ∃ o, H1 a = some o) (hn : ∀ a ∈ fp, ∀ vs, H1 a ≠ some (.tup vs)) (f : Fr H1 Z1 L1 H2 Z2 M) (w2 : Wf H2 Z2 M) : Wf H2 Z2 (fp ++ M) := by
  have nd := List.nodup_append.mp w.nd
  refine ⟨List.nodup_append.mpr ⟨nd.1, w2.nd, fun a ha b hb e => ?_⟩, fun a ha => ?_, w2.tz⟩
  · subst e
    rcases f.ls a hb with q | q
    · exact nd.2.2 a ha a q rfl
    · obtain ⟨o, e⟩ := ht a ha; rw [q] at e; cases e
  · rcases List.mem_append.mp ha with ha | ha
    · intro z
      rcases f.zs a z with q | q | q
      · exact w.dj a (by simp [ha]) q
      · exact nd.2.2 a ha a q rfl
      · rcases q with q | ⟨vs, q⟩
        · obtain ⟨o, e⟩ := ht a ha; rw [q] at e; cases e
        · exact hn a ha vs q
    · exact w2.dj a ha
theorem Fr.wait (w : Wf H1 Z1 (fp ++ L1)) (a : Fr H Z L H1 Z1 (fp ++ L1)) (f : Fr H1 Z1 L1 H2 Z2 M) : Fr H Z L H2 Z2 (fp ++ M) := by
  have b : Fr H1 Z1 (fp ++ L1) H2 Z2 (fp ++ M) := ⟨fun x o e n => f.keep x o e fun m => n (by simp [m]), f.zm, fun x z => (f.zs x z).imp id (fun q => q.imp (fun m => by simp [m]) id), fun x m => by
    rcases List.mem_append.mp m with m | m
    · exact .inl (by simp [m])
    · exact (f.ls x m).imp (fun m => by simp [m]) id⟩
  exact a.trans b
theorem repD_wait {d : D} {v : V} (w : Wf H1 Z1 (fp ++ L1)) (h : RepD K cA H1 Z1 d v fp) (f : Fr H1 Z1 L1 H2 Z2 M) : RepD K cA H2 Z2 d v fp := by
  have nd := List.nodup_append.mp w.nd
  refine repD_mono d f.zm (fun a o m e => f.keep a o e fun q => ?_) h
  rcases m with m | m
  · exact w.dj a (by simp [q]) m
  · exact nd.2.2 a m a q rfl
end
abbrev Env := List (Option D)
section
variable (K : PySem.W.Frag) (cA : Str → Addr) (H : Hp) (Z : ZS)
def RelL : Env → L2.St → FP → Prop
  | [], σ, fp => σ = [] ∧ fp = []
  | none :: ρ, σ, fp => ∃ x σ', σ = x :: σ' ∧ RelL ρ σ' fp
  | some d :: ρ, σ, fp => ∃ v σ' f1 f2, σ = some v :: σ' ∧ RepD K cA H Z d v f1 ∧ RelL ρ σ' f2 ∧ fp = f1 ++ f2
end
section
variable {K : PySem.W.Frag} {cA : Str → Addr} {H H' : Hp} {Z Z' : ZS}
theorem relL_mono : ∀ {ρ : Env} {σ : L2.St} {fp : FP}, (∀ a, Z a → Z' a) → (∀ a o, (Z a ∨ a ∈ fp) → H a = some o → H' a = some o) → RelL K cA H Z ρ σ fp → RelL K cA H' Z' ρ σ fp
  | [], _, _, _, _, h => h
  | none :: ρ, σ, fp, hz, hk, h => let ⟨x, σ', e, r⟩ := h; ⟨x, σ', e, relL_mono hz hk r⟩
  | some d :: ρ, σ, fp, hz, hk, h => by
    obtain ⟨v, σ', f1, f2, e, h1, h2, ef⟩ := h
    subst ef
    exact ⟨v, σ', f1, f2, e, repD_mono d hz (fun a u m => hk a u (m.imp id fun z => by simp [z])) h1, relL_mono hz (fun a u m => hk a u (m.imp id fun z => by simp [z])) h2, rfl⟩
theorem relL_len : ∀ {ρ : Env} {σ : L2.St} {fp : FP}, RelL K cA H Z ρ σ fp → σ.length = ρ.length
  | [], _, _, h => by rw [h.1]; rfl
  | none :: ρ, σ, fp, h => by
    obtain ⟨x, σ', e, r⟩ := h
    rw [e, List.length_cons, List.length_cons, relL_len r]
  | some d :: ρ, σ, fp, h => by
    obtain ⟨v, σ', f1, f2, e, h1, h2, ef⟩ := h
    rw [e, List.length_cons, List.length_cons, relL_len h2]
theorem relL_trk : ∀ {ρ : Env} {σ : L2.St} {fp : FP}, RelL K cA H Z ρ σ fp → ∀ a ∈ fp, ∃ o, H a = some o
  | [], _, _, h, a, ha => by rw [h.2] at ha; cases ha
  | none :: ρ, σ, fp, h, a, ha => by
    obtain ⟨x, σ', e, r⟩ := h
    exact relL_trk r a ha
  | some d :: ρ, σ, fp, h, a, ha => by
    obtain ⟨v, σ', f1, f2, e, h1, h2, ef⟩ := h
    subst ef
    rcases List.mem_append.mp ha with ha | ha
    · exact repD_trk d h1 a ha
    · exact relL_trk h2 a ha
theorem relL_nt : ∀ {ρ : Env} {σ : L2.St} {fp : FP}, RelL K cA H Z ρ σ fp → ∀ a ∈ fp, ∀ vs, H a ≠ some (.tup vs)
  | [], _, _, h, a, ha, ws => by rw [h.2] at ha; cases ha
  | none :: ρ, σ, fp, h, a, ha, ws => by
    obtain ⟨x, σ', e, r⟩ := h
    exact relL_nt r a ha ws
  | some d :: ρ, σ, fp, h, a, ha, ws => by
    obtain ⟨v, σ', f1, f2, e, h1, h2, ef⟩ := h
    subst ef
    rcases List.mem_append.mp ha with ha | ha
    · exact repD_nt d h1 a ha ws
    · exact relL_nt h2 a ha ws
theorem relL_at : ∀ {ρ : Env} {σ : L2.St} {fp : FP} {i : Nat} {d : D}, RelL K cA H Z ρ σ fp → ρ[i]? = some (some d) → ∃ v f0 f1 f2, σ[i]? = some (some v) ∧ RepD K cA H Z d v f1 ∧ fp = f0 ++ f1 ++ f2 ∧
    (∀ {H' : Hp} {Z' : ZS} {d' : D} {v' : V} {g : FP}, (∀ a, Z a → Z' a) → (∀ a o, (Z a ∨ a ∈ f0 ∨ a ∈ f2) → H a = some o → H' a = some o) → RepD K cA H' Z' d' v' g → RelL K cA H' Z' (ρ.set i (some d')) (σ.set i (some v')) (f0 ++ g ++ f2)) ∧
    (∀ {H' : Hp} {Z' : ZS}, (∀ a, Z a → Z' a) → (∀ a o, (Z a ∨ a ∈ f0 ∨ a ∈ f2) → H a = some o → H' a = some o) → RelL K cA H' Z' (ρ.set i none) σ (f0 ++ f2))
  | [], _, _, _, _, _, e => by simp at e
  | none :: ρ, σ, fp, 0, d, h, e => by simp at e
  | some d' :: ρ, σ, fp, 0, d, h, e => by
    simp at e; subst e
    obtain ⟨v, σ', f1, f2, es, h1, h2, ef⟩ := h
    subst es
    refine ⟨v, [], f1, f2, rfl, h1, by simpa using ef, fun {H' Z' d'' v' g} hz hk r => ⟨v', σ', g, f2, rfl, r, relL_mono hz (fun a o m => hk a o (m.imp id fun z => .inr z)) h2, by simp⟩, fun {H' Z'} hz hk => ?_⟩
    exact ⟨some v, σ', rfl, by simpa using relL_mono hz (fun a o m => hk a o (m.imp id fun z => .inr z)) h2⟩
  | none :: ρ, σ, fp, i + 1, d, h, e => by
    obtain ⟨x, σ', es, r⟩ := h
    subst es
    obtain ⟨v, f0, f1, f2, hv, hr, ef, put, cut⟩ := relL_at (i := i) r (by simpa using e)
    refine ⟨v, f0, f1, f2, by simpa using hv, hr, ef, fun {H' Z' d'' v' g} hz hk q => ⟨x, _, rfl, put hz hk q⟩, fun {H' Z'} hz hk => ⟨x, _, rfl, cut hz hk⟩⟩
  | some d0 :: ρ, σ, fp, i + 1, d, h, e => by
    obtain ⟨v0, σ', g1, g2, es, h1, h2, eg⟩ := h
    subst es
    obtain ⟨v, f0, f1, f2, hv, hr, ef, put, cut⟩ := relL_at (i := i) h2 (by simpa using e)
    refine ⟨v, g1 ++ f0, f1, f2, by simpa using hv, hr, by rw [eg, ef]; simp, fun {H' Z' d'' v' g} hz hk q => ⟨v0, _, g1, f0 ++ g ++ f2, rfl, ?_, put hz (fun a o m => hk a o (m.imp id fun z => z.imp (fun z => by simp [z]) id)) q, by simp⟩, fun {H' Z'} hz hk => ⟨v0, _, g1, f0 ++ f2, rfl, ?_, cut hz (fun a o m => hk a o (m.imp id fun z => z.imp (fun z => by simp [z]) id)), by simp⟩⟩
    · exact repD_mono d0 hz (fun a o m => hk a o (m.imp id fun z => .inl (by simp [z]))) h1
    · exact repD_mono d0 hz (fun a o m => hk a o (m.imp id fun z => .inl (by simp [z]))) h1
theorem relL_set : ∀ {ρ : Env} {σ : L2.St} {fp : FP} {i : Nat} {d : D} {v : V} {g : FP}, RelL K cA H Z ρ σ fp → i < ρ.length → RepD K cA H Z d v g → ∃ f0 f2, (f0 ++ f2).Sublist fp ∧ RelL K cA H Z (ρ.set i (some d)) (σ.set i (some v)) (f0 ++ g ++ f2)
  | [], _, _, _, _, _, _, _, e, _ => by simp at e
  | none :: ρ, σ, fp, 0, d, v, g, h, _, hr => by
    obtain ⟨x, σ', es, r⟩ := h
    subst es
    exact ⟨[], fp, by simp, v, σ', g, fp, rfl, hr, r, by simp⟩
  | some d' :: ρ, σ, fp, 0, d, v, g, h, _, hr => by
    obtain ⟨v', σ', f1, f2, es, h1, h2, ef⟩ := h
    subst es ef
    exact ⟨[], f2, by simp, v, σ', g, f2, rfl, hr, h2, by simp⟩
  | none :: ρ, σ, fp, i + 1, d, v, g, h, hi, hr => by
    obtain ⟨x, σ', es, r⟩ := h
    subst es
    obtain ⟨f0, f2, hs, q⟩ := relL_set (i := i) r (by simpa using hi) hr
    exact ⟨f0, f2, hs, x, _, rfl, q⟩
  | some d' :: ρ, σ, fp, i + 1, d, v, g, h, hi, hr => by
    obtain ⟨v', σ', f1, f2, es, h1, h2, ef⟩ := h
    subst es ef
    obtain ⟨f0, f2', hs, q⟩ := relL_set (i := i) h2 (by simpa using hi) hr
    refine ⟨f1 ++ f0, f2', ?_, v', _, f1, f0 ++ g ++ f2', rfl, h1, q, by simp⟩
    rw [List.append_assoc]
    exact (List.Sublist.refl f1).append hs
end
end DL
namespace DL
open PySem L2
structure Exn where
  c : Str
  fs : List (Str × At)
inductive Out (α : Type) where
  | ok (x : α) (ρ : Env) | ex (e : Exn) (ρ : Env) | st
inductive Fl where
  | nx (ρ : Env) | rt (d : D) (ρ : Env) | bk (ρ : Env) | ct (ρ : Env) | ex (e : Exn) (ρ : Env) | st
inductive FR where
  | rt (d : D) (io : Option D) | ex (e : Exn) (io : Option D) | st
def ExR (cA : Str → Addr) (H : Hp) (Z : ZS) (e : Exn) (cls : Value) (d : Option Addr) : Prop :=
  cls = .ref (cA e.c) ∧ ((e.fs = [] ∧ d = none) ∨ e.fs ≠ [] ∧ ∃ dd, d = some dd ∧ Z dd ∧ H dd = some (.xd (e.fs.map fun p => (p.1, p.2.v))))
section
variable (K : PySem.W.Frag) (cA : Str → Addr)
def PostE (W : WX) (σ : L2.St) (H : Hp) (Z : ZS) (L : FP) (Q : VK) : Out D → Prop
  | .ok d ρ' => ∀ v H' Z' L' fp, RelL K cA H' Z' ρ' σ L' → Wf H' Z' (fp ++ L') → RepD K cA H' Z' d v fp → Fr H Z L H' Z' (fp ++ L') → Q v H'
  | .ex e ρ' => ∀ cls d H' Z' L', RelL K cA H' Z' ρ' σ L' → Wf H' Z' L' → ExR cA H' Z' e cls d → Fr H Z L H' Z' L' → W cls d σ H'
  | .st => False
def PostP (W : WX) (σ : L2.St) (H : Hp) (Z : ZS) (L : FP) (Q : VK) : Out D → Prop
  | .ok d ρ' => ∀ v H' Z' L' fp, RelL K cA H' Z' ρ' σ L' → Wf H' Z' L' → RepD K cA H' Z' d v fp → Fr H Z L H' Z' L' → Q v H'
  | .ex e ρ' => ∀ cls d H' Z' L', RelL K cA H' Z' ρ' σ L' → Wf H' Z' L' → ExR cA H' Z' e cls d → Fr H Z L H' Z' L' → W cls d σ H'
  | .st => False
def PostT (W : WX) (σ : L2.St) (H : Hp) (Z : ZS) (L : FP) (Q : Bool → Hp → Prop) : Out Bool → Prop
  | .ok b ρ' => ∀ H' Z' L', RelL K cA H' Z' ρ' σ L' → Wf H' Z' L' → Fr H Z L H' Z' L' → Q b H'
  | .ex e ρ' => ∀ cls d H' Z' L', RelL K cA H' Z' ρ' σ L' → Wf H' Z' L' → ExR cA H' Z' e cls d → Fr H Z L H' Z' L' → W cls d σ H'
  | .st => False
inductive Ag where
  | d (d : D) | s (i : Nat)
def RepA (H : Hp) (Z : ZS) (σ : L2.St) : List Ag → List V → FP → Prop
  | [], vs, g => vs = [] ∧ g = []
  | .d x :: xs, vs, g => ∃ v vs' f1 f2, vs = v :: vs' ∧ RepD K cA H Z x v f1 ∧ RepA H Z σ xs vs' f2 ∧ g = f1 ++ f2
  | .s i :: xs, vs, g => ∃ v vs', vs = v :: vs' ∧ σ[i]? = some (some v) ∧ RepA H Z σ xs vs' g
def PostA (W : WX) (σ : L2.St) (H : Hp) (Z : ZS) (L : FP) (Q : List V → Hp → Prop) : Out (List Ag) → Prop
  | .ok ds ρ' => ∀ vs H' Z' L' fp, RelL K cA H' Z' ρ' σ L' → Wf H' Z' (fp ++ L') → RepA K cA H' Z' σ ds vs fp → Fr H Z L H' Z' (fp ++ L') → Q vs H'
  | .ex e ρ' => ∀ cls d H' Z' L', RelL K cA H' Z' ρ' σ L' → Wf H' Z' L' → ExR cA H' Z' e cls d → Fr H Z L H' Z' L' → W cls d σ H'
  | .st => False
def Pin (k : Option Nat) (σ σ' : L2.St) : Prop := ∀ i, k = some i → σ'[i]? = σ[i]?
def PostS (W : WX) (k : Option Nat) (σ : L2.St) (H : Hp) (Z : ZS) (L : FP) (D : Ends) : Fl → Prop
  | .nx ρ' => ∀ σ' H' Z' L', RelL K cA H' Z' ρ' σ' L' → Wf H' Z' L' → Fr H Z L H' Z' L' → Pin k σ σ' → D.nx σ' H'
  | .bk ρ' => ∀ σ' H' Z' L', RelL K cA H' Z' ρ' σ' L' → Wf H' Z' L' → Fr H Z L H' Z' L' → Pin k σ σ' → D.bk σ' H'
  | .ct ρ' => ∀ σ' H' Z' L', RelL K cA H' Z' ρ' σ' L' → Wf H' Z' L' → Fr H Z L H' Z' L' → Pin k σ σ' → D.ct σ' H'
  | .rt d ρ' => ∀ v σ' H' Z' L' fp, RelL K cA H' Z' ρ' σ' L' → Wf H' Z' (fp ++ L') → RepD K cA H' Z' d v fp → Fr H Z L H' Z' (fp ++ L') → Pin k σ σ' → D.rt v H'
  | .ex e ρ' => ∀ cls d σ' H' Z' L', RelL K cA H' Z' ρ' σ' L' → Wf H' Z' L' → ExR cA H' Z' e cls d → Fr H Z L H' Z' L' → Pin k σ σ' → W cls d σ' H'
  | .st => False
def TEof (W : WX) (f : Env → Out D) : TE := fun σ H Q => ∃ Z L ρ, RelL K cA H Z ρ σ L ∧ Wf H Z L ∧ PostE K cA W σ H Z L Q (f ρ)
def TPof (W : WX) (f : Env → Out D) : TE := fun σ H Q => ∃ Z L ρ, RelL K cA H Z ρ σ L ∧ Wf H Z L ∧ PostP K cA W σ H Z L Q (f ρ)
def TTof (W : WX) (f : Env → Out Bool) : TT := fun σ H Q => ∃ Z L ρ, RelL K cA H Z ρ σ L ∧ Wf H Z L ∧ PostT K cA W σ H Z L Q (f ρ)
def TAof (W : WX) (f : Env → Out (List Ag)) : TA := fun σ H Q => ∃ Z L ρ, RelL K cA H Z ρ σ L ∧ Wf H Z L ∧ PostA K cA W σ H Z L Q (f ρ)
def TSof (W : WX) (k : Option Nat) (f : Env → Fl) : TS := fun D σ H => ∃ Z L ρ, RelL K cA H Z ρ σ L ∧ Wf H Z L ∧ PostS K cA W k σ H Z L D (f ρ)
end
section
variable (X : Cx) (cA : Str → Addr) (W : WX)
def DE (f : Env → Out D) (e : Expr) : Prop := PE X e (TEof X.K cA W f)
def DP (f : Env → Out D) (e : Expr) : Prop := PE X e (TPof X.K cA W f)
def DT (f : Env → Out Bool) (e : Expr) : Prop := PT X e (TTof X.K cA W f)
def DW (f : Env → Out Bool) (e : Expr) : Prop := PW X e (TTof X.K cA W f)
def DA (f : Env → Out (List Ag)) (es : List Expr) : Prop := PA X es (TAof X.K cA W f)
def DS (k : Option Nat) (f : Env → Fl) (st : Stmt) : Prop := PS X st (TSof X.K cA W k f)
def DSs (k : Option Nat) (f : Env → Fl) (st : List Stmt) : Prop := PSs X st (TSof X.K cA W k f)
end
section
variable {X : Cx}
theorem PE.imp {e : Expr} {t t' : TE} (h : PE X e t) (i : ∀ σ H Q, t' σ H Q → t σ H Q) : PE X e t' := ⟨fun pins s σ H Q I w => h.run pins s σ H Q I (i σ H Q w)⟩
theorem PT.imp {e : Expr} {t t' : TT} (h : PT X e t) (i : ∀ σ H Q, t' σ H Q → t σ H Q) : PT X e t' := ⟨fun pins s σ H Q I w => h.run pins s σ H Q I (i σ H Q w)⟩
theorem PW.imp {e : Expr} {t t' : TT} (h : PW X e t) (i : ∀ σ H Q, t' σ H Q → t σ H Q) : PW X e t' := ⟨fun wh pins s σ H Q I w => h.run wh pins s σ H Q I (i σ H Q w)⟩
theorem PA.imp {e : List Expr} {t t' : TA} (h : PA X e t) (i : ∀ σ H Q, t' σ H Q → t σ H Q) : PA X e t' := ⟨fun pos pins s σ H Q I w => h.run pos pins s σ H Q I (i σ H Q w)⟩
theorem PS.imp {e : Stmt} {t t' : TS} (h : PS X e t) (i : ∀ D σ H, t' D σ H → t D σ H) : PS X e t' := ⟨fun pins s σ H D I w => h.run pins s σ H D I (i D σ H w)⟩
theorem PSs.imp {e : List Stmt} {t t' : TS} (h : PSs X e t) (i : ∀ D σ H, t' D σ H → t D σ H) : PSs X e t' := ⟨fun pins s σ H D I w => h.run pins s σ H D I (i D σ H w)⟩
end
section
variable {K : PySem.W.Frag} {cA : Str → Addr} {H H1 H2 : Hp} {Z Z1 Z2 : ZS} {L L1 L2 M fp : FP} {ρ : Env} {σ : _root_.L2.St}
theorem relL_wait (w : Wf H1 Z1 (fp ++ L1)) (h : RelL K cA H1 Z1 ρ σ fp) (f : Fr H1 Z1 L1 H2 Z2 M) : RelL K cA H2 Z2 ρ σ fp := by
  have nd := List.nodup_append.mp w.nd
  refine relL_mono f.zm (fun a o m e => f.keep a o e fun q => ?_) h
  rcases m with m | m
  · exact w.dj a (by simp [q]) m
  · exact nd.2.2 a m a q rfl
theorem Wf.swap (w : Wf H Z (L ++ M)) : Wf H Z (M ++ L) := w.perm (List.perm_append_comm)
theorem Fr.swap (f : Fr H Z L H1 Z1 (L1 ++ M)) : Fr H Z L H1 Z1 (M ++ L1) := f.less fun x m => by
  rcases List.mem_append.mp m with m | m <;> simp [m]
theorem Fr.swapl (f : Fr H Z (L ++ M) H1 Z1 L1) : Fr H Z (M ++ L) H1 Z1 L1 := f.more fun x m => by
  rcases List.mem_append.mp m with m | m <;> simp [m]
theorem hand (w : Wf H1 Z1 (fp ++ L1)) (r : RelL K cA H1 Z1 ρ σ L1) (f : Fr H1 Z1 fp H2 Z2 M) (w2 : Wf H2 Z2 M) : RelL K cA H2 Z2 ρ σ L1 ∧ Wf H2 Z2 (M ++ L1) ∧ Fr H1 Z1 (fp ++ L1) H2 Z2 (M ++ L1) := by
  have ws := w.swap
  refine ⟨relL_wait ws r f, (ws.wait (relL_trk r) (relL_nt r) f w2).swap, ?_⟩
  exact ((Fr.refl (H := H1) (Z := Z1) (L := L1 ++ fp)).wait ws f).swap.swapl
theorem hand0 (w : Wf H1 Z1 L1) (r : RelL K cA H1 Z1 ρ σ L1) (f : Fr H1 Z1 [] H2 Z2 M) (w2 : Wf H2 Z2 M) : RelL K cA H2 Z2 ρ σ L1 ∧ Wf H2 Z2 (M ++ L1) ∧ Fr H1 Z1 L1 H2 Z2 (M ++ L1) := hand (fp := []) w r f w2
def ZU (Z : ZS) (fp : FP) : ZS := fun a => Z a ∨ a ∈ fp
theorem Wf.freeze (w : Wf H Z (fp ++ L)) (ht : ∀ a ∈ fp, ∃ o, H a = some o) : Wf H (ZU Z fp) L := by
  have nd := List.nodup_append.mp w.nd
  refine ⟨nd.2.1, fun a ha z => ?_, fun a z => ?_⟩
  · rcases z with z | z
    · exact w.dj a (by simp [ha]) z
    · exact nd.2.2 a z a ha rfl
  · rcases z with z | z
    · exact w.tz a z
    · exact ht a z
theorem Fr.freeze (f : Fr H Z L H1 Z1 (fp ++ M)) : Fr H Z L H1 (ZU Z1 fp) M := by
  refine ⟨f.keep, fun a z => .inl (f.zm a z), fun a z => ?_, fun a m => f.ls a (by simp [m])⟩
  rcases z with z | z
  · exact f.zs a z
  · exact .inr ((f.ls a (by simp [z])).imp id .inl)
theorem zu_sub {fp : FP} : ∀ a, Z a → ZU Z fp a := fun _ z => .inl z
theorem relL_zu (h : RelL K cA H Z ρ σ L) : RelL K cA H (ZU Z fp) ρ σ L := relL_mono zu_sub (fun _ _ _ e => e) h
theorem repD_zu {d : D} {v : V} (h : RepD K cA H Z d v fp) : RepD K cA H (ZU Z fp) (frz d) v [] := repD_frz d zu_sub (fun a m => .inr m) h
theorem repL_zu {d : List D} {v : List V} (h : RepL K cA H Z d v fp) : RepL K cA H (ZU Z fp) (frzL d) v [] := repL_frz d zu_sub (fun a m => .inr m) h
theorem fr_new {p : Addr} {o : HO} (h : H p = none) : Fr H Z L (upd H p o) Z (p :: L) := by
  refine ⟨fun a u e _ => by rw [upd_ne (ne_of_none e h)]; exact e, fun _ z => z, fun _ z => .inl z, fun a m => ?_⟩
  rcases List.mem_cons.mp m with rfl | m
  · exact .inr h
  · exact .inl m
theorem wf_new {p : Addr} {o : HO} (w : Wf H Z L) (h : H p = none) (ht : ∀ a ∈ L, ∃ o, H a = some o) : Wf (upd H p o) Z (p :: L) := by
  refine ⟨List.nodup_cons.mpr ⟨fun m => ?_, w.nd⟩, fun a m => ?_, fun a z => ?_⟩
  · obtain ⟨u, e⟩ := ht p m; rw [h] at e; cases e
  · rcases List.mem_cons.mp m with rfl | m
    · intro z; obtain ⟨u, e⟩ := w.tz a z; rw [h] at e; cases e
    · exact w.dj a m
  · obtain ⟨u, e⟩ := w.tz a z
    exact ⟨u, by rw [upd_ne (ne_of_none e h)]; exact e⟩
theorem keep_new {p : Addr} {o : HO} (h : H p = none) : ∀ a u, H a = some u → upd H p o a = some u := fun a u e => by rw [upd_ne (ne_of_none e h)]; exact e
end
section
variable {X : Cx} {cA : Str → Addr} {W : WX} {k : Option Nat}
theorem de_of {e : Expr} {t : TE} {f : Env → Out D} (h : PE X e t) (i : ∀ σ H Q Z L ρ, RelL X.K cA H Z ρ σ L → Wf H Z L → PostE X.K cA W σ H Z L Q (f ρ) → t σ H Q) : DE X cA W f e :=
  PE.imp h fun σ H Q ⟨Z, L, ρ, r, w, p⟩ => i σ H Q Z L ρ r w p
theorem dp_of {e : Expr} {t : TE} {f : Env → Out D} (h : PE X e t) (i : ∀ σ H Q Z L ρ, RelL X.K cA H Z ρ σ L → Wf H Z L → PostP X.K cA W σ H Z L Q (f ρ) → t σ H Q) : DP X cA W f e :=
  PE.imp h fun σ H Q ⟨Z, L, ρ, r, w, p⟩ => i σ H Q Z L ρ r w p
theorem da_of {e : List Expr} {t : TA} {f : Env → Out (List Ag)} (h : PA X e t) (i : ∀ σ H Q Z L ρ, RelL X.K cA H Z ρ σ L → Wf H Z L → PostA X.K cA W σ H Z L Q (f ρ) → t σ H Q) : DA X cA W f e :=
  PA.imp h fun σ H Q ⟨Z, L, ρ, r, w, p⟩ => i σ H Q Z L ρ r w p
theorem ds_of {e : Stmt} {t : TS} {f : Env → Fl} (h : PS X e t) (i : ∀ D σ H Z L ρ, RelL X.K cA H Z ρ σ L → Wf H Z L → PostS X.K cA W k σ H Z L D (f ρ) → t D σ H) : DS X cA W k f e :=
  PS.imp h fun D σ H ⟨Z, L, ρ, r, w, p⟩ => i D σ H Z L ρ r w p
theorem dss_of {e : List Stmt} {t : TS} {f : Env → Fl} (h : PSs X e t) (i : ∀ D σ H Z L ρ, RelL X.K cA H Z ρ σ L → Wf H Z L → PostS X.K cA W k σ H Z L D (f ρ) → t D σ H) : DSs X cA W k f e :=
  PSs.imp h fun D σ H ⟨Z, L, ρ, r, w, p⟩ => i D σ H Z L ρ r w p
end
theorem exw {K : PySem.W.Frag} {cA : Str → Addr} {W : WX} {σ : L2.St} {H H1 : Hp} {Z Z1 : ZS} {L L1 : FP} {e : Exn} {ρ' : Env}
    (h : ∀ cls d H' Z' L', RelL K cA H' Z' ρ' σ L' → Wf H' Z' L' → ExR cA H' Z' e cls d → Fr H Z L H' Z' L' → W cls d σ H') (f : Fr H Z L H1 Z1 L1) :
    ∀ cls d H' Z' L', RelL K cA H' Z' ρ' σ L' → Wf H' Z' L' → ExR cA H' Z' e cls d → Fr H1 Z1 L1 H' Z' L' → W cls d σ H' := fun cls d H' Z' L' r w x g => h cls d H' Z' L' r w x (f.trans g)
section
variable {X : Cx} {cA : Str → Addr} {W : WX}
theorem postE_at {K : PySem.W.Frag} {σ : L2.St} {H : Hp} {Z : ZS} {L : FP} {ρ : Env} {Q : VK} {d : D} {v : V} (r : RelL K cA H Z ρ σ L) (w : Wf H Z L) (h : RepD K cA H Z d v []) (p : PostE K cA W σ H Z L Q (.ok d ρ)) : Q v H :=
  p v H Z L [] r w h Fr.refl
theorem repD_a {K : PySem.W.Frag} {H : Hp} {Z : ZS} {x : At} : RepD K cA H Z (.a x) x.v [] := ⟨rfl, rfl⟩
def dC (x : At) : Env → Out D := fun ρ => .ok (.a x) ρ
theorem de_int {i : Int} {j pos} : DE X cA W (dC (.int i)) (.Constant (.int i) j pos) := de_of pe_int fun σ H Q Z L ρ r w p => postE_at r w repD_a p
theorem de_bl {b : Bool} {j pos} : DE X cA W (dC (.bl b)) (.Constant (.bool b) j pos) := de_of pe_bl fun σ H Q Z L ρ r w p => postE_at r w repD_a p
theorem de_non {j pos} : DE X cA W (dC .non) (.Constant .none j pos) := de_of pe_non fun σ H Q Z L ρ r w p => postE_at r w repD_a p
theorem de_str {x : Str} {j pos} : DE X cA W (dC (.str x)) (.Constant (.str x) j pos) := de_of pe_str fun σ H Q Z L ρ r w p => postE_at r w repD_a p
def dVar (i : Nat) : Env → Out D := fun ρ => match ρ[i]? with
  | some (some d) => if isF d = true then .ok d ρ else .st
  | _ => .st
def dPeek (i : Nat) : Env → Out D := fun ρ => match ρ[i]? with
  | some (some d) => .ok d ρ
  | _ => .st
theorem de_var {i : Nat} {e : Expr} (h : PE X e (tVar i)) : DE X cA W (dVar i) e := de_of h fun σ H Q Z L ρ r w p => by
  unfold dVar at p
  split at p
  · rename_i d hd
    split at p
    · rename_i hf
      obtain ⟨v, f0, f1, f2, hv, hr, ef, _, _⟩ := relL_at r hd
      have e1 := repD_isF d hr hf
      subst e1
      exact ⟨v, hv, postE_at r w hr p⟩
    · exact p.elim
  · exact p.elim
theorem dp_peek {i : Nat} {e : Expr} (h : PE X e (tVar i)) : DP X cA W (dPeek i) e := dp_of h fun σ H Q Z L ρ r w p => by
  unfold dPeek at p
  split at p
  · rename_i d hd
    obtain ⟨v, f0, f1, f2, hv, hr, ef, _, _⟩ := relL_at r hd
    exact ⟨v, hv, p v H Z L f1 r w hr Fr.refl⟩
  · exact p.elim
theorem dp_de {f : Env → Out D} {e : Expr} (h : DE X cA W f e) : DP X cA W f e := dp_of h fun σ H Q Z L ρ r w p => ⟨Z, L, ρ, r, w, by
  cases hf : f ρ with
  | ok d ρ' =>
    rw [hf] at p
    exact fun v H' Z' L' fp r' w' h' f' => p v H' Z' L' fp r' (w'.less (List.sublist_append_right _ _)) h' (f'.less fun x m => by simp [m])
  | ex e ρ' => rw [hf] at p; exact p
  | st => rw [hf] at p; exact p⟩
def dFz (f : Env → Out D) : Env → Out D := fun ρ => match f ρ with
  | .ok d ρ' => .ok (frz d) ρ'
  | .ex e ρ' => .ex e ρ'
  | .st => .st
theorem de_fz {f : Env → Out D} {e : Expr} (h : DE X cA W f e) : DE X cA W (dFz f) e := de_of h fun σ H Q Z L ρ r w p => ⟨Z, L, ρ, r, w, by
  unfold dFz at p
  cases hf : f ρ with
  | ok d ρ' =>
    rw [hf] at p
    exact fun v H' Z' L' fp r' w' h' f' => p v H' (ZU Z' fp) L' [] (relL_zu r') (w'.freeze (repD_trk d h')) (repD_zu h') f'.freeze
  | ex e ρ' => rw [hf] at p; exact p
  | st => rw [hf] at p; exact p⟩
structure VOp2 (K : PySem.W.Frag) (cA : Str → Addr) (r : R2) (g : D → D → Option D) : Prop where
  run : ∀ {d1 d2 d : D} {v1 v2 : V} {H : Hp} {Z : ZS} {f1 f2 : FP} {Q : VK}, RepD K cA H Z d1 v1 f1 → RepD K cA H Z d2 v2 f2 → Wf H Z (f1 ++ f2) → g d1 d2 = some d →
  (∀ v H' Z' fp, RepD K cA H' Z' d v fp → Wf H' Z' fp → Fr H Z (f1 ++ f2) H' Z' fp → Q v H') → r v1 v2 H Q
def dOp2 (g : D → D → Option D) (fa fb : Env → Out D) : Env → Out D := fun ρ => match fa ρ with
  | .ok d1 ρ1 => (match fb ρ1 with
    | .ok d2 ρ2 => (match g d1 d2 with
      | some d => .ok d ρ2
      | none => .st)
    | .ex e ρ2 => .ex e ρ2
    | .st => .st)
  | .ex e ρ1 => .ex e ρ1
  | .st => .st
theorem te_op2 {K : PySem.W.Frag} {r : R2} {g : D → D → Option D} (V : VOp2 K cA r g) {fa fb : Env → Out D} : ∀ σ H Q, TEof K cA W (dOp2 g fa fb) σ H Q → tOp r (TEof K cA W fa) (TEof K cA W fb) σ H Q := by
  rintro σ H Q ⟨Z, L, ρ, r, w, p⟩
  refine ⟨Z, L, ρ, r, w, ?_⟩
  unfold dOp2 at p
  cases ha : fa ρ with
  | st => rw [ha] at p; exact p
  | ex e ρ' => rw [ha] at p; exact p
  | ok d1 ρ1 =>
    rw [ha] at p
    intro v1 H1 Z1 L1 f1 r1 w1 h1 F1
    refine ⟨Z1, L1, ρ1, r1, w1.less (List.sublist_append_right _ _), ?_⟩
    dsimp only at p
    cases hb : fb ρ1 with
    | st => rw [hb] at p; exact p
    | ex e ρ' =>
      rw [hb] at p
      exact exw p (F1.less fun x m => by simp [m])
    | ok d2 ρ2 =>
      rw [hb] at p
      intro v2 H2 Z2 L2 f2 r2 w2 h2 F2
      dsimp only at p
      cases hg : g d1 d2 with
      | none => rw [hg] at p; exact p.elim
      | some d =>
        rw [hg] at p
        have w12 : Wf H2 Z2 (f1 ++ (f2 ++ L2)) := w1.wait (repD_trk d1 h1) (repD_nt d1 h1) F2 w2
        have F12 := Fr.wait w1 F1 F2
        rw [← List.append_assoc] at w12 F12
        refine V.run (repD_wait w1 h1 F2) h2 (w12.less (List.sublist_append_left _ _)) hg fun v H3 Z3 fp h3 w3 F3 => ?_
        obtain ⟨r3, w4, F4⟩ := hand w12 r2 F3 w3
        exact p v H3 Z3 L2 fp r3 w4 h3 (F12.trans F4)
theorem de_op {op : Operator} {r : R2} {g : D → D → Option D} {fa fb : Env → Out D} {a b : Expr} {pos : Pos} (ho : OpR X (binaryOp op) r) (V : VOp2 X.K cA r g) (ha : DE X cA W fa a) (hb : DE X cA W fb b) : DE X cA W (dOp2 g fa fb) (.BinOp a op b pos) :=
  PE.imp (pe_op ho ha hb) (te_op2 V)
theorem de_cmp {op : CmpOp} {r : R2} {g : D → D → Option D} {fa fb : Env → Out D} {a b : Expr} {pos : Pos} (ho : OpR X (compareOp op) r) (V : VOp2 X.K cA r g) (ha : DE X cA W fa a) (hb : DE X cA W fb b) (hm : behindInMarks op b = false := by exact nomark _) : DE X cA W (dOp2 g fa fb) (.Compare a [op] [b] pos) :=
  PE.imp (pe_cmpR ho ha hb hm) (te_op2 V)
structure VOpP (K : PySem.W.Frag) (cA : Str → Addr) (r : R2) (g : D → D → Option D) : Prop where
  run : ∀ {d1 d2 d : D} {v1 v2 : V} {H : Hp} {Z : ZS} {f1 f2 : FP} {Q : VK}, RepD K cA H Z d1 v1 f1 → RepD K cA H Z d2 v2 f2 → g d1 d2 = some d →
  (∀ x, d = .a x → Q x.v H) → r v1 v2 H Q
theorem te_opP {K : PySem.W.Frag} {r : R2} {g : D → D → Option D} (V : VOpP K cA r g) (hg : ∀ d1 d2 d, g d1 d2 = some d → ∃ x, d = .a x) {fa fb : Env → Out D} : ∀ σ H Q, TEof K cA W (dOp2 g fa fb) σ H Q → tOp r (TEof K cA W fa) (TPof K cA W fb) σ H Q := by
  rintro σ H Q ⟨Z, L, ρ, r, w, p⟩
  refine ⟨Z, L, ρ, r, w, ?_⟩
  unfold dOp2 at p
  cases ha : fa ρ with
  | st => rw [ha] at p; exact p
  | ex e ρ' => rw [ha] at p; exact p
  | ok d1 ρ1 =>
    rw [ha] at p
    intro v1 H1 Z1 L1 f1 r1 w1 h1 F1
    refine ⟨Z1, L1, ρ1, r1, w1.less (List.sublist_append_right _ _), ?_⟩
    dsimp only at p
    cases hb : fb ρ1 with
    | st => rw [hb] at p; exact p
    | ex e ρ' =>
      rw [hb] at p
      exact exw p (F1.less fun x m => by simp [m])
    | ok d2 ρ2 =>
      rw [hb] at p
      intro v2 H2 Z2 L2 f2 r2 w2 h2 F2
      dsimp only at p
      cases hg' : g d1 d2 with
      | none => rw [hg'] at p; exact p.elim
      | some d =>
        rw [hg'] at p
        obtain ⟨x, rfl⟩ := hg d1 d2 d hg'
        refine V.run (repD_wait w1 h1 F2) h2 hg' fun x' e => ?_
        cases e
        exact p x.v H2 Z2 L2 [] r2 w2 repD_a ((F1.less fun x m => by simp [m]).trans F2)
end
end DL
namespace DL
open PySem L2
abbrev cap : Nat := 1000000
theorem cap_le {n : Nat} (h : n ≤ cap) : n ≤ sizeLine := Nat.le_trans h (by rw [sizeLine_eq]; decide)
theorem cap_lt {n : Nat} (h : n < cap) : n < sizeLine := Nat.lt_of_lt_of_le h (by rw [sizeLine_eq]; decide)
theorem vop_at {K : PySem.W.Frag} {cA : Str → Addr} {r : R2} {g : D → D → Option D} (h : ∀ d1 d2 d, g d1 d2 = some d → ∃ x y z, d1 = .a x ∧ d2 = .a y ∧ d = .a z ∧ ∀ H (Q : VK), Q z.v H → r x.v y.v H Q) : VOp2 K cA r g := by
  refine ⟨@fun d1 d2 d v1 v2 H Z f1 f2 Q h1 h2 w hg q => ?_⟩
  obtain ⟨x, y, z, rfl, rfl, rfl, hr⟩ := h d1 d2 d hg
  obtain ⟨e1, e2⟩ := h1
  obtain ⟨e3, e4⟩ := h2
  subst e1 e2 e3 e4
  exact hr H Q (q _ H Z [] ⟨rfl, rfl⟩ ⟨List.nodup_nil, fun _ m => (nomatch m), w.tz⟩ Fr.refl)
def gOr (g g' : D → D → Option D) : D → D → Option D := fun a b => (g a b).or (g' a b)
theorem vop_or {K : PySem.W.Frag} {cA : Str → Addr} {r r' : R2} {g g' : D → D → Option D} (h : VOp2 K cA r g) (h' : VOp2 K cA r' g') : VOp2 K cA (fun x y H Q => r x y H Q ∨ r' x y H Q) (gOr g g') := by
  refine ⟨@fun d1 d2 d v1 v2 H Z f1 f2 Q h1 h2 w hg q => ?_⟩
  unfold gOr at hg
  cases e : g d1 d2 with
  | some c =>
    rw [e] at hg
    cases hg
    exact .inl (h.run h1 h2 w e q)
  | none =>
    rw [e] at hg
    exact .inr (h'.run h1 h2 w hg q)
def gII (c : Int → Int → Bool) (f : Int → Int → Int) : D → D → Option D
  | .a (.int i), .a (.int j) => if c i j = true then some (.int (f i j)) else none
  | _, _ => none
theorem vop_ii {K : PySem.W.Frag} {cA : Str → Addr} {C : Int → Int → Prop} {c : Int → Int → Bool} {f : Int → Int → Int} (h : ∀ i j, c i j = true → C i j) : VOp2 K cA (rI C fun i j => .int (f i j)) (gII c f) := vop_at fun d1 d2 d hg => by
  unfold gII at hg
  split at hg
  · rename_i i j
    split at hg
    · rename_i hc
      cases hg
      exact ⟨_, _, _, rfl, rfl, rfl, fun H Q q => ⟨i, j, rfl, rfl, h i j hc, q⟩⟩
    · cases hg
  · cases hg
theorem vop_ii0 {K : PySem.W.Frag} {cA : Str → Addr} {f : Int → Int → Int} : VOp2 K cA (rI0 fun i j => .int (f i j)) (gII (fun _ _ => true) f) := vop_at fun d1 d2 d hg => by
  unfold gII at hg
  split at hg
  · rename_i i j
    rw [if_pos rfl] at hg
    cases hg
    exact ⟨_, _, _, rfl, rfl, rfl, fun H Q q => ⟨i, j, rfl, rfl, q⟩⟩
  · cases hg
def gIB (f : Int → Int → Bool) : D → D → Option D
  | .a (.int i), .a (.int j) => some (.bl (f i j))
  | _, _ => none
theorem vop_ib {K : PySem.W.Frag} {cA : Str → Addr} {f : Int → Int → Bool} : VOp2 K cA (rI0 fun i j => .bl (f i j)) (gIB f) := vop_at fun d1 d2 d hg => by
  unfold gIB at hg
  split at hg
  · rename_i i j
    cases hg
    exact ⟨_, _, _, rfl, rfl, rfl, fun H Q q => ⟨i, j, rfl, rfl, q⟩⟩
  · cases hg
def gCatL : D → D → Option D
  | .n .lst _ xs, .n .lst _ ys => if isFL xs = true ∧ isFL ys = true ∧ xs.length + ys.length ≤ cap then some (.lst true (xs ++ ys)) else none
  | _, _ => none
section
variable {K : PySem.W.Frag} {cA : Str → Addr} {H : Hp} {Z : ZS}
theorem rep_lst {o : Bool} {xs : List D} {v : V} {fp : FP} (h : RepD K cA H Z (.n .lst o xs) v fp) : ∃ p vs g, v = .ref p ∧ H p = some (.lst vs) ∧ RepL K cA H Z xs vs g ∧ fp = (if o then p :: g else []) ∧ (o = false → Z p ∧ g = []) := by
  obtain ⟨p, vs, g, e, hl, hc, ef, hg⟩ := h
  exact ⟨p, vs, g, e, hc.1, hl, ef, fun q => ⟨hc.2 q, hg q⟩⟩
theorem rep_tup {o : Bool} {xs : List D} {v : V} {fp : FP} (h : RepD K cA H Z (.n .tup o xs) v fp) : ∃ p vs, v = .ref p ∧ SqT K H p vs ∧ RepL K cA H Z xs vs [] ∧ fp = [] ∧ o = false ∧ TupK K H Z p vs := by
  obtain ⟨p, vs, g, e, hl, ⟨ho, hc⟩, ef, hg⟩ := h
  subst ho
  have := hg rfl
  subst this
  exact ⟨p, vs, e, tupK_sq hc, hl, ef, rfl, hc⟩
theorem rep_scr {o : Bool} {xs : List D} {v : V} {fp : FP} (h : RepD K cA H Z (.n .scr o xs) v fp) : ∃ p vs, v = .ref p ∧ SqL K H p vs ∧ RepL K cA H Z xs vs [] ∧ fp = [] ∧ o = false := by
  obtain ⟨p, vs, g, e, hl, ⟨ho, hc⟩, ef, hg⟩ := h
  subst ho
  have := hg rfl
  subst this
  refine ⟨p, vs, e, ?_, hl, ef, rfl⟩
  rcases hc with ⟨_, r⟩ | r
  · exact .inl r
  · exact .inr r
theorem repL_fl {xs : List D} {vs : List V} {g : FP} (h : RepL K cA H Z xs vs g) (hf : isFL xs = true) : RepL K cA H Z xs vs [] := by
  have e := repL_isF xs h hf
  subst e
  exact h
theorem new_lst {xs : List D} {vs : List V} {p : Addr} (w : Wf H Z []) (h : RepL K cA H Z xs vs []) (hp : H p = none) :
    RepD K cA (upd H p (.lst vs)) Z (.lst true xs) (.ref p) [p] ∧ Wf (upd H p (.lst vs)) Z [p] ∧ Fr H Z [] (upd H p (.lst vs)) Z [p] := by
  refine ⟨⟨p, vs, [], rfl, repL_mono xs (fun _ z => z) (fun a o _ e => keep_new hp a o e) h, ⟨upd_same, fun q => nomatch q⟩, rfl, fun q => nomatch q⟩, wf_new w hp (fun a m => nomatch m), fr_new hp⟩
theorem new_tup {xs : List D} {vs : List V} {p : Addr} {ob : Obj} (w : Wf H Z []) (h : RepL K cA H Z xs vs []) (hp : H p = none) (ho : ob.dict = none) :
    RepD K cA (upd H p (.frz ob (.tup vs))) (ZU Z [p]) (.tup xs) (.ref p) [] ∧ Wf (upd H p (.frz ob (.tup vs))) (ZU Z [p]) [] ∧ Fr H Z [] (upd H p (.frz ob (.tup vs))) (ZU Z [p]) [] := by
  refine ⟨⟨p, vs, [], rfl, repL_mono xs zu_sub (fun a o _ e => keep_new hp a o e) h, ⟨rfl, .inl ⟨.inr (by simp), ob, upd_same, ho⟩⟩, rfl, fun _ => rfl⟩, ?_, ?_⟩
  · exact (wf_new w hp (fun a m => nomatch m) : Wf (upd H p (.frz ob (.tup vs))) Z ([p] ++ [])).freeze fun a m => ⟨.frz ob (.tup vs), by
      have : a = p := by simpa using m
      subst this; exact upd_same⟩
  · exact Fr.freeze (fp := [p]) (M := []) (fr_new hp)
theorem wf0 {L : FP} (w : Wf H Z L) : Wf H Z [] := w.less (List.nil_sublist _)
theorem fr0 {L : FP} {H' : Hp} {Z' : ZS} {fp : FP} (f : Fr H Z [] H' Z' fp) : Fr H Z L H' Z' fp := f.more fun _ m => nomatch m
end
theorem vop_catL {K : PySem.W.Frag} {cA : Str → Addr} : VOp2 K cA rCat gCatL := by
  refine ⟨@fun d1 d2 d v1 v2 H Z f1 f2 Q h1 h2 w hg q => ?_⟩
  unfold gCatL at hg
  split at hg
  · rename_i o1 xs o2 ys
    split at hg
    · rename_i hc
      cases hg
      obtain ⟨p, vs, g, rfl, e1, r1, _, _⟩ := rep_lst h1
      obtain ⟨p', ws, g', rfl, e2, r2, _, _⟩ := rep_lst h2
      have l1 := repL_len r1
      have l2 := repL_len r2
      refine ⟨p, p', vs, ws, rfl, rfl, e1, e2, cap_le (by omega), fun p0 hp => ?_⟩
      obtain ⟨a, b, c⟩ := new_lst (wf0 w) (repL_append (repL_fl r1 hc.1) (repL_fl r2 hc.2.1)) hp
      exact q _ _ _ _ a b (fr0 c)
    · cases hg
  · cases hg
def gCatT : D → D → Option D
  | .n .tup _ xs, .n .tup _ ys => if xs.length + ys.length ≤ cap then some (.tup (xs ++ ys)) else none
  | _, _ => none
theorem vop_catT {K : PySem.W.Frag} {cA : Str → Addr} : VOp2 K cA (rCatN K) gCatT := by
  refine ⟨@fun d1 d2 d v1 v2 H Z f1 f2 Q h1 h2 w hg q => ?_⟩
  unfold gCatT at hg
  split at hg
  · rename_i o1 xs o2 ys
    split at hg
    · rename_i hc
      cases hg
      obtain ⟨p, vs, rfl, e1, r1, ef1, _, c1⟩ := rep_tup h1
      obtain ⟨p', ws, rfl, e2, r2, ef2, _, c2⟩ := rep_tup h2
      have l1 := repL_len r1
      have l2 := repL_len r2
      have rr := repL_append r1 r2
      refine ⟨p, p', vs, ws, rfl, rfl, e1, e2, cap_le (by omega), fun e => ?_, fun n1 e => ?_, fun n1 n2 p0 ob hp ho => ?_⟩
      · subst e
        exact q _ H Z [] ⟨p', ws, [], rfl, rr, ⟨rfl, c2⟩, rfl, fun _ => rfl⟩ (wf0 w) (Fr.refl.less fun _ m => nomatch m)
      · subst e
        exact q _ H Z [] ⟨p, vs, [], rfl, by simpa using rr, ⟨rfl, c1⟩, rfl, fun _ => rfl⟩ (wf0 w) (Fr.refl.less fun _ m => nomatch m)
      · obtain ⟨a, b, c⟩ := new_tup (wf0 w) rr hp ho
        exact q _ _ _ _ a b (fr0 c)
    · cases hg
  · cases hg
def gCatS : D → D → Option D
  | .a (.str x), .a (.str y) => if x.length + y.length ≤ cap then some (.str (x ++ y)) else none
  | _, _ => none
theorem vop_catS {K : PySem.W.Frag} {cA : Str → Addr} : VOp2 K cA (fun x y H Q => ∃ i j, x = .str i ∧ y = .str j ∧ i.length + j.length ≤ sizeLine ∧ Q (.str (i ++ j)) H) gCatS := vop_at fun d1 d2 d hg => by
  unfold gCatS at hg
  split at hg
  · rename_i x y
    split at hg
    · rename_i hc
      cases hg
      exact ⟨_, _, _, rfl, rfl, rfl, fun H Q q => ⟨x, y, rfl, rfl, cap_le hc, q⟩⟩
    · cases hg
  · cases hg
abbrev gAddI : D → D → Option D := gII (fun _ _ => true) fun i j => i + j
abbrev gSub : D → D → Option D := gII (fun _ _ => true) fun i j => i - j
def gAdd : D → D → Option D := gOr gAddI (gOr gCatL (gOr gCatT gCatS))
def gRep : D → D → Option D
  | .n .lst _ xs, .a (.int k) => if isFL xs = true ∧ -1000000 ≤ k ∧ k ≤ 1000000 ∧ xs.length * k.toNat ≤ cap then some (.lst true (List.replicate k.toNat xs).flatten) else none
  | _, _ => none
theorem repL_rep {K : PySem.W.Frag} {cA : Str → Addr} {H : Hp} {Z : ZS} {xs : List D} {vs : List V} (h : RepL K cA H Z xs vs []) : ∀ n : Nat, RepL K cA H Z (List.replicate n xs).flatten (List.replicate n vs).flatten []
  | 0 => ⟨rfl, rfl⟩
  | n + 1 => by
    rw [List.replicate_succ, List.replicate_succ, List.flatten_cons, List.flatten_cons]
    exact repL_append h (repL_rep h n)
theorem vop_rep {K : PySem.W.Frag} {cA : Str → Addr} : VOp2 K cA rRep gRep := by
  refine ⟨@fun d1 d2 d v1 v2 H Z f1 f2 Q h1 h2 w hg q => ?_⟩
  unfold gRep at hg
  split at hg
  · rename_i o1 xs k
    split at hg
    · rename_i hc
      cases hg
      obtain ⟨p, vs, g, rfl, e1, r1, _, _⟩ := rep_lst h1
      obtain ⟨e3, e4⟩ := h2
      subst e3
      have l1 := repL_len r1
      refine ⟨p, k, vs, rfl, rfl, e1, by omega, by omega, cap_le (by rw [l1]; exact hc.2.2.2), fun p0 hp => ?_⟩
      obtain ⟨a, b, c⟩ := new_lst (wf0 w) (repL_rep (repL_fl r1 hc.1) k.toNat) hp
      exact q _ _ _ _ a b (fr0 c)
    · cases hg
  · cases hg
def mulOk (i j : Int) : Bool := decide ((Builtin.Int.intBits i : Int) + (Builtin.Int.intBits j : Int) ≤ 134217728)
abbrev gMulI : D → D → Option D := gII mulOk fun i j => i * j
def gMul : D → D → Option D := gOr gMulI gRep
def divOk (i j : Int) : Bool := decide (0 < j) && (decide (j < 1073741824) || decide (j.natAbs.log2 < 9000))
abbrev gFdiv : D → D → Option D := gII divOk fun i j => i / j
abbrev gMod : D → D → Option D := gII (fun _ j => decide (0 < j)) fun i j => i % j
def powOk (i j : Int) : Bool := decide (0 ≤ j) && (decide (j ≤ 1000000) && decide (i.natAbs < 2 ^ 64))
abbrev gShl : D → D → Option D := gII powOk fun i j => i * 2 ^ j.toNat
abbrev gShr : D → D → Option D := gII (fun _ j => decide (0 ≤ j)) fun i j => i / 2 ^ j.toNat
abbrev gAnd : D → D → Option D := gII (fun _ _ => true) fun i j => Builtin.bitAnd i j
abbrev gOrB : D → D → Option D := gII (fun _ _ => true) fun i j => Builtin.bitOr i j
section
variable {X : Cx} {cA : Str → Addr} {W : WX} {fa fb : Env → Out D} {a b : Expr} {pos : Pos}
theorem divOk_w {i j : Int} (h : divOk i j = true) : CDivW i j := by
  unfold divOk at h
  simp only [Bool.and_eq_true, Bool.or_eq_true, decide_eq_true_eq] at h
  refine ⟨h.1, ?_⟩
  rcases h.2 with h2 | h2
  · have h3 : j.natAbs < 2 ^ 30 := by have := h.1; omega
    exact Nat.lt_of_lt_of_le (PySem.Flt.log2_lt_of (by decide) h3) (by decide)
  · exact h2
theorem mulOk_c {i j : Int} (h : mulOk i j = true) : CMulX i j := by
  unfold mulOk at h
  unfold CMulX
  exact of_decide_eq_true h
theorem powOk_c {i j : Int} (h : powOk i j = true) : CPow i j := by
  unfold powOk at h
  simp only [Bool.and_eq_true, decide_eq_true_eq] at h
  exact ⟨h.1, h.2.1, h.2.2⟩
theorem de_add (ha : DE X cA W fa a) (hb : DE X cA W fb b) : DE X cA W (dOp2 gAdd fa fb) (.BinOp a .Add b pos) :=
  de_op (op_add.or (op_cat.or (op_catN.or op_add_str))) (vop_or vop_ii0 (vop_or vop_catL (vop_or vop_catT vop_catS))) ha hb
theorem de_mul (ha : DE X cA W fa a) (hb : DE X cA W fb b) : DE X cA W (dOp2 gMul fa fb) (.BinOp a .Mult b pos) :=
  de_op (op_mulX.or op_rep) (vop_or (vop_ii fun i j h => mulOk_c h) vop_rep) ha hb
theorem de_fdiv (ha : DE X cA W fa a) (hb : DE X cA W fb b) : DE X cA W (dOp2 gFdiv fa fb) (.BinOp a .FloorDiv b pos) := de_op op_fdivW (vop_ii fun i j h => divOk_w h) ha hb
theorem de_mod (ha : DE X cA W fa a) (hb : DE X cA W fb b) : DE X cA W (dOp2 gMod fa fb) (.BinOp a .Mod b pos) := de_op op_mod (vop_ii fun i j h => of_decide_eq_true h) ha hb
theorem de_shl (ha : DE X cA W fa a) (hb : DE X cA W fb b) : DE X cA W (dOp2 gShl fa fb) (.BinOp a .LShift b pos) := de_op op_shl (vop_ii fun i j h => powOk_c h) ha hb
theorem de_shr (ha : DE X cA W fa a) (hb : DE X cA W fb b) : DE X cA W (dOp2 gShr fa fb) (.BinOp a .RShift b pos) := de_op op_shr (vop_ii fun i j h => of_decide_eq_true h) ha hb
theorem de_and (ha : DE X cA W fa a) (hb : DE X cA W fb b) : DE X cA W (dOp2 gAnd fa fb) (.BinOp a .BitAnd b pos) := de_op op_and vop_ii0 ha hb
theorem de_or (ha : DE X cA W fa a) (hb : DE X cA W fb b) : DE X cA W (dOp2 gOrB fa fb) (.BinOp a .BitOr b pos) := de_op op_or vop_ii0 ha hb
end
structure VU (K : PySem.W.Frag) (cA : Str → Addr) (r : V → Hp → VK → Prop) (g : D → Option D) : Prop where
  run : ∀ {d1 d : D} {v1 : V} {H : Hp} {Z : ZS} {f1 : FP} {Q : VK}, RepD K cA H Z d1 v1 f1 → Wf H Z [] → g d1 = some d →
  (∀ v H' Z' fp, RepD K cA H' Z' d v fp → Wf H' Z' fp → Fr H Z [] H' Z' fp → Q v H') → r v1 H Q
def dU (g : D → Option D) (fa : Env → Out D) : Env → Out D := fun ρ => match fa ρ with
  | .ok d1 ρ1 => (match g d1 with
    | some d => .ok d ρ1
    | none => .st)
  | .ex e ρ1 => .ex e ρ1
  | .st => .st
section
variable {X : Cx} {cA : Str → Addr} {W : WX} {fa fb : Env → Out D} {a b : Expr} {pos : Pos}
theorem te_un {K : PySem.W.Frag} {r : V → Hp → VK → Prop} {g : D → Option D} (V : VU K cA r g) : ∀ σ H Q, TEof K cA W (dU g fa) σ H Q → tUn r (TPof K cA W fa) σ H Q := by
  rintro σ H Q ⟨Z, L, ρ, r, w, p⟩
  refine ⟨Z, L, ρ, r, w, ?_⟩
  unfold dU at p
  cases ha : fa ρ with
  | st => rw [ha] at p; exact p
  | ex e ρ' => rw [ha] at p; exact p
  | ok d1 ρ1 =>
    rw [ha] at p
    intro v1 H1 Z1 L1 f1 r1 w1 h1 F1
    dsimp only at p
    cases hg : g d1 with
    | none => rw [hg] at p; exact p.elim
    | some d =>
      rw [hg] at p
      refine V.run h1 (wf0 w1) hg fun v H2 Z2 fp h2 w2 F2 => ?_
      obtain ⟨r3, w3, F3⟩ := hand0 w1 r1 F2 w2
      exact p v H2 Z2 L1 fp r3 w3 h2 (F1.trans F3)
theorem vu_at {K : PySem.W.Frag} {r : V → Hp → VK → Prop} {g : D → Option D} (h : ∀ d1 d, g d1 = some d → ∃ x z, d1 = .a x ∧ d = .a z ∧ ∀ H (Q : VK), Q z.v H → r x.v H Q) : VU K cA r g := by
  refine ⟨@fun d1 d v1 H Z f1 Q h1 w hg q => ?_⟩
  obtain ⟨x, z, rfl, rfl, hr⟩ := h d1 d hg
  obtain ⟨e1, e2⟩ := h1
  subst e1 e2
  exact hr H Q (q _ H Z [] ⟨rfl, rfl⟩ w Fr.refl)
theorem de_un {op : UnaryOp} {r : V → Hp → VK → Prop} {g : D → Option D} (ho : UnR X (unaryOp op) r) (V : VU X.K cA r g) (ha : DP X cA W fa a) : DE X cA W (dU g fa) (.UnaryOp op a pos) := PE.imp (pe_un ho ha) (te_un V)
def gI (f : Int → Int) : D → Option D
  | .a (.int i) => some (.int (f i))
  | _ => none
theorem vu_i {K : PySem.W.Frag} {f : Int → Int} : VU K cA (rU fun i => .int (f i)) (gI f) := vu_at fun d1 d hg => by
  unfold gI at hg
  split at hg
  · rename_i i
    cases hg
    exact ⟨_, _, rfl, rfl, fun H Q q => ⟨i, rfl, q⟩⟩
  · cases hg
abbrev gNeg : D → Option D := gI fun i => -i
theorem de_neg (ha : DE X cA W fa a) : DE X cA W (dU gNeg fa) (.UnaryOp .USub a pos) := de_un un_neg vu_i (dp_de ha)
def VC1 (K : PySem.W.Frag) (cA : Str → Addr) (r : List V → Hp → VK → Prop) (g : D → Option D) : Prop := VU K cA (fun v H Q => r [v] H Q) g
theorem te_c1 {K : PySem.W.Frag} {r : List V → Hp → VK → Prop} {g : D → Option D} (V : VC1 K cA r g) : ∀ σ H Q, TEof K cA W (dU g fa) σ H Q → tCB r (tCons (TPof K cA W fa) tNil) σ H Q := te_un (r := fun v H Q => r [v] H Q) V
theorem de_callB {id : String} {x : Str} {p : Pos} {r : List V → Hp → VK → Prop} {g : D → Option D} (hc : CallR X (.builtin id) r) (V : VC1 X.K cA r g) (hg : Gl X x) (hm : X.mg x = none) (hv : bootBuiltins x = some (.builtin id)) (ha : DP X cA W fa a)
    (hn : x ≠ "__name__" := by decide +kernel) (hdb : (x == ("__debug__" : Str)) = false := by kernel_rfl)
    (he : starEach [a] X.env = [(false, eval a X.env)] := by kernel_rfl) (hs : starEach [a] X.env = (false, eval a X.env) :: starEach [] X.env := by kernel_rfl) : DE X cA W (dU g fa) (.Call (.Name x p) [a] [] pos) :=
  PE.imp (pe_callB hc hg hm hv (pa_cons ha pa_nil hs) hn hdb hs rfl) (te_c1 V)
theorem de_callTy {T : String} {x : Str} {p : Pos} {r : List V → Hp → VK → Prop} {g : D → Option D} (hc : CallR X (.type T) r) (V : VC1 X.K cA r g) (hg : Gl X x) (hm : X.mg x = none) (hv : bootBuiltins x = some (.type T)) (ha : DP X cA W fa a)
    (hn : x ≠ "__name__" := by decide +kernel) (hdb : (x == ("__debug__" : Str)) = false := by kernel_rfl)
    (hs : starEach [a] X.env = (false, eval a X.env) :: starEach [] X.env := by kernel_rfl) : DE X cA W (dU g fa) (.Call (.Name x p) [a] [] pos) :=
  PE.imp (pe_callTy hc hg hm hv (pa_cons ha pa_nil hs) hn hdb hs rfl) (te_c1 V)
def gLen : D → Option D
  | .n .scr _ xs => some (.int xs.length)
  | .n .lst _ xs => some (.int xs.length)
  | .n .tup _ xs => some (.int xs.length)
  | .a (.str s) => if s.length ≤ cap then some (.int s.length) else none
  | _ => none
theorem vc_len {K : PySem.W.Frag} : VC1 K cA (fun xs H Q => ∃ x n, xs = [x] ∧ LenV K x H n ∧ Q (.int n) H) gLen := by
  refine ⟨@fun d1 d v1 H Z f1 Q h1 w hg q => ?_⟩
  unfold gLen at hg
  split at hg
  · rename_i o xs
    cases hg
    obtain ⟨p, vs, rfl, e1, r1, _⟩ := rep_scr h1
    exact ⟨_, xs.length, rfl, .inl ⟨vs, e1, (repL_len r1).symm⟩, q _ H Z [] ⟨rfl, rfl⟩ w Fr.refl⟩
  · rename_i o xs
    cases hg
    obtain ⟨p, vs, g, rfl, e1, r1, _, _⟩ := rep_lst h1
    exact ⟨_, xs.length, rfl, .inl ⟨vs, SqL.of e1, (repL_len r1).symm⟩, q _ H Z [] ⟨rfl, rfl⟩ w Fr.refl⟩
  · rename_i o xs
    cases hg
    obtain ⟨p, vs, rfl, e1, r1, _⟩ := rep_tup h1
    exact ⟨_, xs.length, rfl, .inr ⟨vs, e1, (repL_len r1).symm⟩, q _ H Z [] ⟨rfl, rfl⟩ w Fr.refl⟩
  · rename_i s
    split at hg
    · rename_i hs
      cases hg
      obtain ⟨e, _⟩ := h1
      subst e
      exact ⟨_, s.length, rfl, ⟨cap_le hs, rfl⟩, q _ H Z [] ⟨rfl, rfl⟩ w Fr.refl⟩
    · cases hg
  · cases hg
theorem de_len {x : Str} {p : Pos} (hg : Gl X x) (hm : X.mg x = none) (hv : bootBuiltins x = some (.builtin "len")) (ha : DP X cA W fa a) (hn : x ≠ "__name__" := by decide +kernel) (hdb : (x == ("__debug__" : Str)) = false := by kernel_rfl)
    (hs : starEach [a] X.env = (false, eval a X.env) :: starEach [] X.env := by kernel_rfl) : DE X cA W (dU gLen fa) (.Call (.Name x p) [a] [] pos) := de_callB call_len vc_len hg hm hv ha hn hdb hs hs
def gTuple : D → Option D
  | .n .lst _ xs => if isFL xs = true then some (.tup xs) else none
  | .n .tup _ xs => some (.tup xs)
  | _ => none
def gList : D → Option D
  | .n .lst _ xs => if isFL xs = true then some (.lst true xs) else none
  | .n .tup _ xs => some (.lst true xs)
  | _ => none
theorem vc_tuple {K : PySem.W.Frag} : VC1 K cA (rTupOf K) gTuple := by
  refine ⟨@fun d1 d v1 H Z f1 Q h1 w hg q => ?_⟩
  unfold gTuple at hg
  split at hg
  · rename_i o xs
    split at hg
    · rename_i hf
      cases hg
      obtain ⟨p, vs, g, rfl, e1, r1, _, _⟩ := rep_lst h1
      refine ⟨p, vs, rfl, .inl ⟨SqL.of e1, fun l ob hl ho => ?_⟩⟩
      obtain ⟨a, b, c⟩ := new_tup w (repL_fl r1 hf) hl ho
      exact q _ _ _ _ a b c
    · cases hg
  · rename_i o xs
    cases hg
    obtain ⟨p, vs, rfl, e1, r1, _, ho, c1⟩ := rep_tup h1
    exact ⟨p, vs, rfl, .inr ⟨e1, q _ H Z [] ⟨p, vs, [], rfl, r1, ⟨rfl, c1⟩, rfl, fun _ => rfl⟩ w Fr.refl⟩⟩
  · cases hg
theorem de_tuple {x : Str} {p : Pos} (hg : Gl X x) (hm : X.mg x = none) (hv : bootBuiltins x = some (.type "tuple")) (ha : DP X cA W fa a) (hn : x ≠ "__name__" := by decide +kernel) (hdb : (x == ("__debug__" : Str)) = false := by kernel_rfl)
    (hs : starEach [a] X.env = (false, eval a X.env) :: starEach [] X.env := by kernel_rfl) : DE X cA W (dU gTuple fa) (.Call (.Name x p) [a] [] pos) := de_callTy call_tupleN vc_tuple hg hm hv ha hn hdb hs
def gInt : D → Option D
  | .a (.int i) => some (.int i)
  | .a (.bl k) => some (.int (if k = true then 1 else 0))
  | _ => none
theorem vc_int {K : PySem.W.Frag} : VC1 K cA (fun xs H Q => (∃ i, xs = [.int i] ∧ Q (.int i) H) ∨ ∃ k, xs = [.bl k] ∧ Q (.int (if k then 1 else 0)) H) gInt := vu_at fun d1 d hg => by
  unfold gInt at hg
  split at hg
  · rename_i i
    cases hg
    exact ⟨_, _, rfl, rfl, fun H Q q => .inl ⟨i, rfl, q⟩⟩
  · rename_i k
    cases hg
    exact ⟨_, _, rfl, rfl, fun H Q q => .inr ⟨k, rfl, q⟩⟩
  · cases hg
theorem de_intc {x : Str} {p : Pos} (hg : Gl X x) (hm : X.mg x = none) (hv : bootBuiltins x = some (.type "int")) (ha : DP X cA W fa a) (hn : x ≠ "__name__" := by decide +kernel) (hdb : (x == ("__debug__" : Str)) = false := by kernel_rfl)
    (hs : starEach [a] X.env = (false, eval a X.env) :: starEach [] X.env := by kernel_rfl) : DE X cA W (dU gInt fa) (.Call (.Name x p) [a] [] pos) := de_callTy call_int1 vc_int hg hm hv ha hn hdb hs
abbrev gAbs : D → Option D := gI fun i => if i < 0 then -i else i
theorem vc_abs {K : PySem.W.Frag} : VC1 K cA (fun xs H Q => ∃ i, xs = [.int i] ∧ Q (.int (if i < 0 then -i else i)) H) gAbs := vu_at fun d1 d hg => by
  unfold gAbs gI at hg
  split at hg
  · rename_i i
    cases hg
    exact ⟨_, _, rfl, rfl, fun H Q q => ⟨i, rfl, q⟩⟩
  · cases hg
theorem de_abs {x : Str} {p : Pos} (hg : Gl X x) (hm : X.mg x = none) (hv : bootBuiltins x = some (.builtin "abs")) (ha : DP X cA W fa a) (hn : x ≠ "__name__" := by decide +kernel) (hdb : (x == ("__debug__" : Str)) = false := by kernel_rfl)
    (hs : starEach [a] X.env = (false, eval a X.env) :: starEach [] X.env := by kernel_rfl) : DE X cA W (dU gAbs fa) (.Call (.Name x p) [a] [] pos) := de_callB call_abs vc_abs hg hm hv ha hn hdb hs hs
end
end DL
namespace DL
open PySem L2
def strG (s : Str) : Bool := s.cps.all (· < 0x110000)
mutual
def pD (n : Nat) : D → Bool
  | .a (.str s) => strG s
  | .a _ => true
  | .n .tup _ xs => (match n with | 0 => false | m + 1 => pDL m xs)
  | .n .lst _ xs => (match n with | 0 => false | m + 1 => pDL m xs)
  | _ => false
def pDL (n : Nat) : List D → Bool
  | [] => true
  | x :: xs => pD n x && pDL n xs
end
def eqA : At → At → Bool
  | .non, .non => true
  | .bl a, .bl b => a == b
  | .bl a, .int b => (if a = true then 1 else 0) == b
  | .int a, .bl b => a == (if b = true then 1 else 0)
  | .int a, .int b => a == b
  | .str a, .str b => a == b
  | _, _ => false
mutual
def eqD : D → D → Bool
  | .a x, .a y => eqA x y
  | .n .tup _ xs, .n .tup _ ys => eqDL xs ys
  | .n .lst _ xs, .n .lst _ ys => eqDL xs ys
  | _, _ => false
def eqDL : List D → List D → Bool
  | [], [] => true
  | x :: xs, y :: ys => eqD x y && eqDL xs ys
  | _, _ => false
end
mutual
def pyD : D → PyData
  | .a .non => .none
  | .a (.bl b) => .bool b
  | .a (.int i) => .int i
  | .a (.str s) => .str s
  | .n .tup _ xs => .tuple (pyL xs)
  | .n .lst _ xs => .list (pyL xs)
  | _ => .none
def pyL : List D → List PyData
  | [] => []
  | x :: xs => pyD x :: pyL xs
end
mutual
theorem lay_pD : ∀ (n : Nat) (d : D), pD n d = true → PyData.canLay0 (pyD d) = true ∧ PyData.depth (pyD d) ≤ n
  | n, .a .non, _ => ⟨by simp [pyD, PyData.canLay0], by simp [pyD, PyData.depth]⟩
  | n, .a (.bl b), _ => ⟨by simp [pyD, PyData.canLay0], by simp [pyD, PyData.depth]⟩
  | n, .a (.int i), _ => ⟨by simp [pyD, PyData.canLay0], by simp [pyD, PyData.depth]⟩
  | n, .a (.str s), h => ⟨by
      have h : strG s = true := by simpa [pD] using h
      simp only [pyD, PyData.canLay0]
      exact h, by simp [pyD, PyData.depth]⟩
  | 0, .n .tup _ xs, h => by simp [pD] at h
  | n + 1, .n .tup _ xs, h => by
    have h : pDL n xs = true := by simpa [pD] using h
    obtain ⟨a, b⟩ := lay_pDL n xs h
    exact ⟨by simpa [pyD, PyData.canLay0] using a, by simpa [pyD, PyData.depth] using b⟩
  | 0, .n .lst _ xs, h => by simp [pD] at h
  | n + 1, .n .lst _ xs, h => by
    have h : pDL n xs = true := by simpa [pD] using h
    obtain ⟨a, b⟩ := lay_pDL n xs h
    exact ⟨by simpa [pyD, PyData.canLay0] using a, by simpa [pyD, PyData.depth] using b⟩
  | _, .n .scr _ _, h => by simp [pD] at h
  | _, .n (.dct _) _ _, h => by simp [pD] at h
  | _, .n (.xt _) _ _, h => by simp [pD] at h
  | _, .n (.ins _ _) _ _, h => by simp [pD] at h
theorem lay_pDL : ∀ (n : Nat) (ds : List D), pDL n ds = true → PyData.canLayAll0 (pyL ds) = true ∧ PyData.depthAll (pyL ds) ≤ n
  | n, [], _ => ⟨by simp [pyL, PyData.canLayAll0], by simp [pyL, PyData.depthAll]⟩
  | n, x :: xs, h => by
    have h : (pD n x && pDL n xs) = true := by simpa only [pDL] using h
    rw [Bool.and_eq_true] at h
    obtain ⟨a, b⟩ := lay_pD n x h.1
    obtain ⟨c, d⟩ := lay_pDL n xs h.2
    refine ⟨?_, ?_⟩
    · simp only [pyL, PyData.canLayAll0, a, c, Bool.and_self]
    · simp only [pyL, PyData.depthAll]; omega
end
mutual
theorem eqv_D : ∀ (d e : D) (n m : Nat), pD n d = true → pD m e = true → PyData.eqv (pyD d) (pyD e) = eqD d e
  | .a x, .a y, _, _, _, _ => by cases x <;> cases y <;> simp [pyD, PyData.eqv, eqD, eqA]
  | .a x, .n .tup _ ys, _, _, _, _ => by cases x <;> simp [pyD, PyData.eqv, eqD]
  | .a x, .n .lst _ ys, _, _, _, _ => by cases x <;> simp [pyD, PyData.eqv, eqD]
  | .n .tup _ xs, .a y, _, _, _, _ => by cases y <;> simp [pyD, PyData.eqv, eqD]
  | .n .lst _ xs, .a y, _, _, _, _ => by cases y <;> simp [pyD, PyData.eqv, eqD]
  | .n .tup _ xs, .n .lst _ ys, _, _, _, _ => by simp [pyD, PyData.eqv, eqD]
  | .n .lst _ xs, .n .tup _ ys, _, _, _, _ => by simp [pyD, PyData.eqv, eqD]
  | .n .tup _ xs, .n .tup _ ys, n, m, h, k => by
    cases n with
    | zero => simp [pD] at h
    | succ n =>
      cases m with
      | zero => simp [pD] at k
      | succ m =>
        simp only [pyD, PyData.eqv, eqD]
        exact eqv_DL xs ys n m (by simpa [pD] using h) (by simpa [pD] using k)
  | .n .lst _ xs, .n .lst _ ys, n, m, h, k => by
    cases n with
    | zero => simp [pD] at h
    | succ n =>
      cases m with
      | zero => simp [pD] at k
      | succ m =>
        simp only [pyD, PyData.eqv, eqD]
        exact eqv_DL xs ys n m (by simpa [pD] using h) (by simpa [pD] using k)
  | .n .scr _ _, _, _, _, h, _ => by simp [pD] at h
  | .n (.dct _) _ _, _, _, _, h, _ => by simp [pD] at h
  | .n (.xt _) _ _, _, _, _, h, _ => by simp [pD] at h
  | .n (.ins _ _) _ _, _, _, _, h, _ => by simp [pD] at h
  | _, .n .scr _ _, _, _, _, h => by simp [pD] at h
  | _, .n (.dct _) _ _, _, _, _, h => by simp [pD] at h
  | _, .n (.xt _) _ _, _, _, _, h => by simp [pD] at h
  | _, .n (.ins _ _) _ _, _, _, _, h => by simp [pD] at h
theorem eqv_DL : ∀ (d e : List D) (n m : Nat), pDL n d = true → pDL m e = true → PyData.eqvAll (pyL d) (pyL e) = eqDL d e
  | [], [], _, _, _, _ => by simp [pyL, PyData.eqvAll, eqDL]
  | [], y :: ys, _, _, _, _ => by simp [pyL, PyData.eqvAll, eqDL]
  | x :: xs, [], _, _, _, _ => by simp [pyL, PyData.eqvAll, eqDL]
  | x :: xs, y :: ys, n, m, h, k => by
    have h : (pD n x && pDL n xs) = true := by simpa only [pDL] using h
    have k : (pD m y && pDL m ys) = true := by simpa only [pDL] using k
    rw [Bool.and_eq_true] at h k
    simp only [pyL, PyData.eqvAll, eqDL]
    rw [eqv_D x y n m h.1 k.1, eqv_DL xs ys n m h.2 k.2]
end
section
variable {K : PySem.W.Frag} {cA : Str → Addr} {H : Hp} {Z : ZS}
mutual
theorem rep_dp : ∀ (d : D) (n : Nat) {v : V} {fp : FP}, pD n d = true → RepD K cA H Z d v fp → Dp K H v (pyD d)
  | .a x, _, v, fp, _, h => by
    obtain ⟨e, _⟩ := h
    subst e
    cases x with
    | non => simpa [pyD, At.v] using Dp.non
    | bl b => simpa [pyD, At.v] using Dp.bl b
    | int i => simpa [pyD, At.v] using Dp.int i
    | str s => simpa [pyD, At.v] using Dp.str s
  | .n .tup o xs, n, v, fp, hp, h => by
    obtain ⟨p, vs, rfl, e1, r1, _⟩ := rep_tup h
    cases n with
    | zero => simp [pD] at hp
    | succ n =>
      simp only [pyD]
      exact Dp.tup e1 (rep_dpL xs n (by simpa [pD] using hp) r1)
  | .n .lst o xs, n, v, fp, hp, h => by
    obtain ⟨p, vs, g, rfl, e1, r1, _⟩ := rep_lst h
    cases n with
    | zero => simp [pD] at hp
    | succ n =>
      simp only [pyD]
      exact Dp.lst (SqL.of e1) (rep_dpL xs n (by simpa [pD] using hp) r1)
  | .n .scr _ _, _, _, _, h, _ => by simp [pD] at h
  | .n (.dct _) _ _, _, _, _, h, _ => by simp [pD] at h
  | .n (.xt _) _ _, _, _, _, h, _ => by simp [pD] at h
  | .n (.ins _ _) _ _, _, _, _, h, _ => by simp [pD] at h
theorem rep_dpL : ∀ (ds : List D) (n : Nat) {vs : List V} {g : FP}, pDL n ds = true → RepL K cA H Z ds vs g → DpAll K H vs (pyL ds)
  | [], _, _, _, _, h => by
    rw [h.1]
    simpa [pyL] using DpAll.nil
  | x :: xs, n, vs, g, hp, h => by
    have hp : (pD n x && pDL n xs) = true := by simpa only [pDL] using hp
    rw [Bool.and_eq_true] at hp
    obtain ⟨v, vs', f1, f2, ev, h1, h2, _⟩ := h
    subst ev
    simp only [pyL]
    exact DpAll.cons (rep_dp x n hp.1 h1) (rep_dpL xs n hp.2 h2)
end
theorem shaped_pD {d : D} {n : Nat} (h : pD n d = true) (hn : n ≤ 64) : SeqAt.shaped (pyD d) = true := by
  obtain ⟨a, b⟩ := lay_pD n d h
  unfold SeqAt.shaped
  rw [a, Bool.true_and, decide_eq_true_eq]
  exact Nat.le_trans b hn
end
def gEqA : D → D → Option D
  | .a x, .a y => if scal x.v y.v = true then some (.bl (decide (x = y))) else none
  | _, _ => none
def gNeA : D → D → Option D
  | .a x, .a y => if scal x.v y.v = true then some (.bl (!decide (x = y))) else none
  | _, _ => none
theorem At.v_inj : ∀ x y : At, x.v = y.v ↔ x = y := by
  intro x y
  cases x <;> cases y <;> simp [At.v]
def gEqP (d e : D) : Option D := if pD 60 d = true ∧ pD 60 e = true then some (.bl (eqD d e)) else none
def gNeP (d e : D) : Option D := if pD 60 d = true ∧ pD 60 e = true then some (.bl (!eqD d e)) else none
section
variable {K : PySem.W.Frag} {cA : Str → Addr}
theorem vop_eqA : VOp2 K cA rEq gEqA := vop_at fun d1 d2 d hg => by
  unfold gEqA at hg
  split at hg
  · rename_i x y
    split at hg
    · rename_i hs
      cases hg
      refine ⟨_, _, _, rfl, rfl, rfl, fun H Q q => ⟨hs, ?_⟩⟩
      have : decide (x.v = y.v) = decide (x = y) := decide_eq_decide.mpr (At.v_inj x y)
      rw [this]; exact q
    · cases hg
  · cases hg
theorem vop_neA : VOp2 K cA rNe gNeA := vop_at fun d1 d2 d hg => by
  unfold gNeA at hg
  split at hg
  · rename_i x y
    split at hg
    · rename_i hs
      cases hg
      refine ⟨_, _, _, rfl, rfl, rfl, fun H Q q => ⟨hs, ?_⟩⟩
      have : decide (x.v = y.v) = decide (x = y) := decide_eq_decide.mpr (At.v_inj x y)
      rw [this]; exact q
    · cases hg
  · cases hg
theorem vop_fin {H : Hp} {Z : ZS} {f1 f2 : FP} {Q : VK} {x : At} (w : Wf H Z (f1 ++ f2)) (q : ∀ v H' Z' fp, RepD K cA H' Z' (.a x) v fp → Wf H' Z' fp → Fr H Z (f1 ++ f2) H' Z' fp → Q v H') : Q x.v H :=
  q _ H Z [] ⟨rfl, rfl⟩ (wf0 w) (Fr.refl.less fun _ m => nomatch m)
theorem vop_eqP : VOp2 K cA (rEqD K) gEqP := by
  refine ⟨@fun d1 d2 d v1 v2 H Z f1 f2 Q h1 h2 w hg q => ?_⟩
  unfold gEqP at hg
  split at hg
  · rename_i hp
    cases hg
    refine ⟨pyD d1, pyD d2, rep_dp d1 60 hp.1 h1, rep_dp d2 60 hp.2 h2, shaped_pD hp.1 (by decide), shaped_pD hp.2 (by decide), ?_⟩
    rw [eqv_D d1 d2 60 60 hp.1 hp.2]
    exact vop_fin (x := .bl _) w q
  · cases hg
theorem vop_neP : VOp2 K cA (rNeD K) gNeP := by
  refine ⟨@fun d1 d2 d v1 v2 H Z f1 f2 Q h1 h2 w hg q => ?_⟩
  unfold gNeP at hg
  split at hg
  · rename_i hp
    cases hg
    refine ⟨pyD d1, pyD d2, rep_dp d1 60 hp.1 h1, rep_dp d2 60 hp.2 h2, shaped_pD hp.1 (by decide), shaped_pD hp.2 (by decide), ?_⟩
    rw [eqv_D d1 d2 60 60 hp.1 hp.2]
    exact vop_fin (x := .bl _) w q
  · cases hg
def gIs : D → D → Option D
  | .a (.bl x), .a (.bl y) => some (.bl (decide (x = y)))
  | .a x, .a .non => some (.bl (decide (x = .non)))
  | .n _ _ _, .a .non => some (.bl false)
  | _, _ => none
def gIsNot : D → D → Option D
  | .a (.bl x), .a (.bl y) => some (.bl (!decide (x = y)))
  | .a x, .a .non => some (.bl (!decide (x = .non)))
  | .n _ _ _, .a .non => some (.bl true)
  | _, _ => none
theorem rep_n_ref {H : Hp} {Z : ZS} {k : Kd} {o : Bool} {xs : List D} {v : V} {fp : FP} (h : RepD K cA H Z (.n k o xs) v fp) : ∃ p, v = .ref p := let ⟨p, _, _, e, _⟩ := h; ⟨p, e⟩
theorem vop_is : VOp2 K cA (fun x y H Q => rIsB x y H Q ∨ (y = .non ∧ Q (.bl (decide (x = .non))) H)) gIs := by
  refine ⟨@fun d1 d2 d v1 v2 H Z f1 f2 Q h1 h2 w hg q => ?_⟩
  unfold gIs at hg
  split at hg
  · rename_i x y
    cases hg
    obtain ⟨e1, _⟩ := h1
    obtain ⟨e2, _⟩ := h2
    subst e1 e2
    exact .inl ⟨x, y, rfl, rfl, vop_fin (x := .bl _) w q⟩
  · rename_i x
    cases hg
    obtain ⟨e1, _⟩ := h1
    obtain ⟨e2, _⟩ := h2
    subst e1 e2
    refine .inr ⟨rfl, ?_⟩
    have : decide (x.v = V.non) = decide (x = At.non) := decide_eq_decide.mpr (At.v_inj x .non)
    rw [this]
    exact vop_fin (x := .bl _) w q
  · cases hg
    obtain ⟨p, e1⟩ := rep_n_ref h1
    obtain ⟨e2, _⟩ := h2
    subst e1 e2
    exact .inr ⟨rfl, vop_fin (x := .bl false) w q⟩
  · cases hg
theorem vop_isnot : VOp2 K cA (fun x y H Q => rNotB x y H Q ∨ (y = .non ∧ Q (.bl (!decide (x = .non))) H)) gIsNot := by
  refine ⟨@fun d1 d2 d v1 v2 H Z f1 f2 Q h1 h2 w hg q => ?_⟩
  unfold gIsNot at hg
  split at hg
  · rename_i x y
    cases hg
    obtain ⟨e1, _⟩ := h1
    obtain ⟨e2, _⟩ := h2
    subst e1 e2
    exact .inl ⟨x, y, rfl, rfl, vop_fin (x := .bl _) w q⟩
  · rename_i x
    cases hg
    obtain ⟨e1, _⟩ := h1
    obtain ⟨e2, _⟩ := h2
    subst e1 e2
    refine .inr ⟨rfl, ?_⟩
    have : decide (x.v = V.non) = decide (x = At.non) := decide_eq_decide.mpr (At.v_inj x .non)
    rw [this]
    exact vop_fin (x := .bl _) w q
  · cases hg
    obtain ⟨p, e1⟩ := rep_n_ref h1
    obtain ⟨e2, _⟩ := h2
    subst e1 e2
    exact .inr ⟨rfl, vop_fin (x := .bl true) w q⟩
  · cases hg
def isA : D → Bool
  | .a _ => true
  | _ => false
def anyEq (x : D) : List D → Bool
  | [] => false
  | y :: ys => eqD y x || anyEq x ys
def gInB (x : D) : D → Option Bool
  | .n .lst _ ys => if pD 60 x = true ∧ pDL 60 ys = true then some (anyEq x ys) else none
  | .n .tup _ ys => if isA x = true ∧ ys.all isA = true then some (anyEq x ys) else if pD 60 x = true ∧ pDL 60 ys = true then some (anyEq x ys) else none
  | .a (.str t) => (match x with
    | .a (.str s) => some (!(Builtin.Str.occurrences t s 0 t.length 1).isEmpty)
    | _ => none)
  | _ => none
def gIn (x y : D) : Option D := (gInB x y).map D.bl
def gNotIn (x y : D) : Option D := (gInB x y).map fun b => D.bl (!b)
theorem any_eqv {n m : Nat} {x : D} (hx : pD n x = true) : ∀ {ys : List D}, pDL m ys = true → ((pyL ys).any fun z => PyData.eqv z (pyD x)) = anyEq x ys
  | [], _ => rfl
  | y :: ys, h => by
    have h : (pD m y && pDL m ys) = true := by simpa only [pDL] using h
    rw [Bool.and_eq_true] at h
    simp only [pyL, List.any_cons, anyEq]
    rw [eqv_D y x m n h.1 hx, any_eqv hx h.2]
theorem flat_at (x : At) : flatV x.v = true := by cases x <;> rfl
theorem eqV_at (x y : At) : eqV x.v y.v = eqA x y := by cases x <;> cases y <;> simp [At.v, eqV, eqA]
theorem repL_atoms {H : Hp} {Z : ZS} : ∀ {ys : List D} {vs : List V} {g : FP}, RepL K cA H Z ys vs g → ys.all isA = true → vs.all flatV = true ∧ ∀ x : At, inV x.v vs = anyEq (.a x) ys
  | [], vs, g, h, _ => by
    rw [h.1]
    exact ⟨rfl, fun x => rfl⟩
  | y :: ys, vs, g, h, ha => by
    obtain ⟨v, vs', f1, f2, ev, h1, h2, _⟩ := h
    rw [List.all_cons, Bool.and_eq_true] at ha
    cases y with
    | n k o xs => simp [isA] at ha
    | a z =>
      obtain ⟨e1, _⟩ := h1
      subst ev e1
      obtain ⟨a, b⟩ := repL_atoms h2 ha.2
      refine ⟨by rw [List.all_cons, flat_at, a]; rfl, fun x => ?_⟩
      have b' := b x
      unfold inV at b' ⊢
      rw [List.any_cons, b', eqV_at]
      rfl
def rInAll (K : PySem.W.Frag) (neg : Bool) : R2 := fun x y H Q => (∃ b, ((∃ d ds, Dp K H x d ∧ Dp K H y (.list ds) ∧ SeqAt.shaped d = true ∧ SeqAt.shaped (.list ds) = true ∧ b = ds.any fun z => PyData.eqv z d) ∨
  (∃ p xs, y = .ref p ∧ (SqL K H p xs ∨ SqT K H p xs) ∧ flatV x = true ∧ xs.all flatV = true ∧ b = inV x xs) ∨ (∃ i j, x = .str i ∧ y = .str j ∧ b = !(Builtin.Str.occurrences j i 0 j.length 1).isEmpty) ∨ ∃ d ds, Dp K H x d ∧ Dp K H y (.tuple ds) ∧ SeqAt.shaped d = true ∧ SeqAt.shaped (.tuple ds) = true ∧ b = ds.any fun z => PyData.eqv z d) ∧ Q (.bl (if neg then !b else b)) H)
theorem gInB_ok {x y : D} {b neg : Bool} {v1 v2 : V} {H : Hp} {Z : ZS} {f1 f2 : FP} {Q : VK} (h1 : RepD K cA H Z x v1 f1) (h2 : RepD K cA H Z y v2 f2) (hg : gInB x y = some b) (q : Q (.bl (if neg then !b else b)) H) : rInAll K neg v1 v2 H Q := by
  refine ⟨b, ?_, q⟩
  unfold gInB at hg
  split at hg
  · rename_i o ys
    split at hg
    · rename_i hp
      cases hg
      obtain ⟨p, vs, g, rfl, e1, r1, _⟩ := rep_lst h2
      refine .inl ⟨pyD x, pyL ys, rep_dp x 60 hp.1 h1, Dp.lst (SqL.of e1) (rep_dpL ys 60 hp.2 r1), shaped_pD hp.1 (by decide), ?_, (any_eqv hp.1 hp.2).symm⟩
      exact shaped_pD (d := .lst o ys) (n := 61) (by simpa [pD] using hp.2) (by decide)
    · cases hg
  · rename_i o ys
    split at hg
    · rename_i hp
      cases hg
      obtain ⟨p, vs, rfl, e1, r1, _⟩ := rep_tup h2
      cases x with
      | n k o xs => simp [isA] at hp
      | a z =>
        obtain ⟨e, _⟩ := h1
        subst e
        obtain ⟨a, b⟩ := repL_atoms r1 hp.2
        exact .inr (.inl ⟨p, vs, rfl, .inr e1, flat_at z, a, (b z).symm⟩)
    · split at hg
      · rename_i hp
        cases hg
        obtain ⟨p, vs, rfl, e1, r1, _⟩ := rep_tup h2
        refine .inr (.inr (.inr ⟨pyD x, pyL ys, rep_dp x 60 hp.1 h1, Dp.tup e1 (rep_dpL ys 60 hp.2 r1), shaped_pD hp.1 (by decide), ?_, (any_eqv hp.1 hp.2).symm⟩))
        exact shaped_pD (d := .n .tup o ys) (n := 61) (by simpa [pD] using hp.2) (by decide)
      · cases hg
  · rename_i t
    split at hg
    · rename_i s
      cases hg
      obtain ⟨e1, _⟩ := h1
      obtain ⟨e2, _⟩ := h2
      subst e1 e2
      exact .inr (.inr (.inl ⟨s, t, rfl, rfl, rfl⟩))
    · cases hg
  · cases hg
theorem vop_in : VOpP K cA (rInAll K false) gIn := by
  refine ⟨@fun d1 d2 d v1 v2 H Z f1 f2 Q h1 h2 hg q => ?_⟩
  unfold gIn at hg
  cases e : gInB d1 d2 with
  | none => rw [e] at hg; cases hg
  | some b =>
    rw [e] at hg
    cases hg
    exact gInB_ok h1 h2 e (q _ rfl)
theorem vop_notin : VOpP K cA (rInAll K true) gNotIn := by
  refine ⟨@fun d1 d2 d v1 v2 H Z f1 f2 Q h1 h2 hg q => ?_⟩
  unfold gNotIn at hg
  cases e : gInB d1 d2 with
  | none => rw [e] at hg; cases hg
  | some b =>
    rw [e] at hg
    cases hg
    exact gInB_ok h1 h2 e (q _ rfl)
theorem gIn_at : ∀ d1 d2 d, gIn d1 d2 = some d → ∃ x, d = .a x := fun d1 d2 d h => by
  unfold gIn at h
  cases e : gInB d1 d2 with
  | none => rw [e] at h; cases h
  | some b => rw [e] at h; cases h; exact ⟨_, rfl⟩
theorem gNotIn_at : ∀ d1 d2 d, gNotIn d1 d2 = some d → ∃ x, d = .a x := fun d1 d2 d h => by
  unfold gNotIn at h
  cases e : gInB d1 d2 with
  | none => rw [e] at h; cases h
  | some b => rw [e] at h; cases h; exact ⟨_, rfl⟩
end
section
variable {X : Cx}
theorem op_inT2 (hu : X.A.units + 65 < cLine) : OpR X (compareOp .In) (fun x y H Q => ∃ d ds, Dp X.K H x d ∧ Dp X.K H y (.tuple ds) ∧ SeqAt.shaped d = true ∧ SeqAt.shaped (.tuple ds) = true ∧ Q (.bl (ds.any fun z => PyData.eqv z d)) H) := by
  intro pins s σ H x y v u Q I rx ry h
  obtain ⟨d, ds, hd, he, sd, se, q⟩ := h
  obtain ⟨as, r1⟩ := Dp.reads I d x v hd rx
  obtain ⟨bs, r2⟩ := Dp.reads I (.tuple ds) y u he ry
  exact SeqAt.in_tuple_reads r2 r1 (SeqAt.canLay_of_shaped se) (SeqAt.canLay_of_shaped sd) (PyProof.Rows.room_in_shaped sd hu) ⟨.bl _, H, I, rfl, q⟩
theorem op_notInT2 (hu : X.A.units + 65 < cLine) : OpR X (compareOp .NotIn) (fun x y H Q => ∃ d ds, Dp X.K H x d ∧ Dp X.K H y (.tuple ds) ∧ SeqAt.shaped d = true ∧ SeqAt.shaped (.tuple ds) = true ∧ Q (.bl (!ds.any fun z => PyData.eqv z d)) H) := by
  intro pins s σ H x y v u Q I rx ry h
  obtain ⟨d, ds, hd, he, sd, se, q⟩ := h
  obtain ⟨as, r1⟩ := Dp.reads I d x v hd rx
  obtain ⟨bs, r2⟩ := Dp.reads I (.tuple ds) y u he ry
  exact SeqAt.notIn_tuple_reads r2 r1 (SeqAt.canLay_of_shaped se) (SeqAt.canLay_of_shaped sd) (PyProof.Rows.room_in_shaped sd hu) ⟨.bl _, H, I, rfl, q⟩
theorem op_inAll (hu : X.A.units + 65 < cLine) : OpR X (compareOp .In) (rInAll X.K false) := by
  intro pins s σ H x y v u Q I rx ry h
  obtain ⟨b, h, q⟩ := h
  rcases h with ⟨d, ds, h1, h2, s1, s2, rfl⟩ | ⟨p, xs, h1, h2, h3, h4, rfl⟩ | ⟨i, j, h1, h2, rfl⟩ | ⟨d, ds, h1, h2, s1, s2, rfl⟩
  · exact op_inD hu pins s σ H x y v u Q I rx ry ⟨d, ds, h1, h2, s1, s2, q⟩
  · exact op_in_seq pins s σ H x y v u Q I rx ry ⟨p, xs, h1, h2, h3, h4, q⟩
  · exact op_in_str pins s σ H x y v u Q I rx ry ⟨i, j, h1, h2, q⟩
  · exact op_inT2 hu pins s σ H x y v u Q I rx ry ⟨d, ds, h1, h2, s1, s2, q⟩
theorem op_notInAll (hu : X.A.units + 65 < cLine) : OpR X (compareOp .NotIn) (rInAll X.K true) := by
  intro pins s σ H x y v u Q I rx ry h
  obtain ⟨b, h, q⟩ := h
  rcases h with ⟨d, ds, h1, h2, s1, s2, rfl⟩ | ⟨p, xs, h1, h2, h3, h4, rfl⟩ | ⟨i, j, h1, h2, rfl⟩ | ⟨d, ds, h1, h2, s1, s2, rfl⟩
  · exact op_notInD hu pins s σ H x y v u Q I rx ry ⟨d, ds, h1, h2, s1, s2, q⟩
  · exact op_notIn_seq pins s σ H x y v u Q I rx ry ⟨p, xs, h1, h2, h3, h4, q⟩
  · exact op_notin_str pins s σ H x y v u Q I rx ry ⟨i, j, h1, h2, q⟩
  · exact op_notInT2 hu pins s σ H x y v u Q I rx ry ⟨d, ds, h1, h2, s1, s2, q⟩
end
end DL
namespace DL
open PySem L2
abbrev gEq : D → D → Option D := gOr gEqA gEqP
abbrev gNe : D → D → Option D := gOr gNeA gNeP
abbrev gLt : D → D → Option D := gIB fun i j => decide (i < j)
abbrev gLe : D → D → Option D := gIB fun i j => decide (i ≤ j)
abbrev gGt : D → D → Option D := gIB fun i j => decide (j < i)
abbrev gGe : D → D → Option D := gIB fun i j => decide (j ≤ i)
structure CR2 (X : Cx) (cA : Str → Addr) (op : CmpOp) (g : D → D → Option D) : Prop where
  ex : ∃ r, OpR X (compareOp op) r ∧ VOp2 X.K cA r g ∧ op ≠ .In ∧ op ≠ .NotIn
section
variable {X : Cx} {cA : Str → Addr}
theorem cr_eq (hu : X.A.units + 64 < cLine) : CR2 X cA .Eq gEq := ⟨_, op_eq.or (op_eqD hu), vop_or vop_eqA vop_eqP, by decide, by decide⟩
theorem cr_ne (hu : X.A.units + 64 < cLine) : CR2 X cA .NotEq gNe := ⟨_, op_ne.or (op_neD hu), vop_or vop_neA vop_neP, by decide, by decide⟩
theorem cr_lt : CR2 X cA .Lt gLt := ⟨_, op_lt, vop_ib, by decide, by decide⟩
theorem cr_le : CR2 X cA .LtE gLe := ⟨_, op_le, vop_ib, by decide, by decide⟩
theorem cr_gt : CR2 X cA .Gt gGt := ⟨_, op_gt, vop_ib, by decide, by decide⟩
theorem cr_is : CR2 X cA .Is gIs := ⟨_, op_isBl.or op_isN, vop_is, by decide, by decide⟩
theorem cr_isnot : CR2 X cA .IsNot gIsNot := ⟨_, op_notBl.or op_notN, vop_isnot, by decide, by decide⟩
end
def dB (f : Env → Out D) : Env → Out Bool := fun ρ => match f ρ with
  | .ok (.a (.bl b)) ρ' => .ok b ρ'
  | .ok _ _ => .st
  | .ex e ρ' => .ex e ρ'
  | .st => .st
section
variable {X : Cx} {cA : Str → Addr} {W : WX} {fa fb fc : Env → Out D} {a b c : Expr} {pos : Pos}
theorem tt_of {K : PySem.W.Frag} {t : TE} {f : Env → Out D} (h : ∀ σ H Q, TEof K cA W f σ H Q → t σ H Q) : ∀ σ H Q, TTof K cA W (dB f) σ H Q → t σ H (fun x H' => ∃ k, x = .bl k ∧ Q k H') := by
  rintro σ H Q ⟨Z, L, ρ, r, w, p⟩
  refine h σ H _ ⟨Z, L, ρ, r, w, ?_⟩
  unfold dB at p
  cases hf : f ρ with
  | st => rw [hf] at p; exact p.elim
  | ex e ρ' => rw [hf] at p; exact p
  | ok d ρ' =>
    rw [hf] at p
    intro v H' Z' L' fp r' w' h' f'
    cases d with
    | n k o xs => exact p.elim
    | a x =>
      cases x with
      | bl k =>
        obtain ⟨e1, e2⟩ := h'
        subst e1 e2
        exact ⟨k, rfl, p H' Z' L' r' w' f'⟩
      | non => exact p.elim
      | int i => exact p.elim
      | str s => exact p.elim
theorem de_cr {op : CmpOp} {g : D → D → Option D} (C : CR2 X cA op g) (ha : DE X cA W fa a) (hb : DE X cA W fb b) : DE X cA W (dOp2 g fa fb) (.Compare a [op] [b] pos) := by
  obtain ⟨r, ho, V, h1, h2⟩ := C.ex
  exact de_cmp ho V ha hb (nomark b h1 h2)
theorem dt_cr {op : CmpOp} {g : D → D → Option D} (C : CR2 X cA op g) (ha : DE X cA W fa a) (hb : DE X cA W fb b) : DT X cA W (dB (dOp2 g fa fb)) (.Compare a [op] [b] pos) := by
  obtain ⟨r, ho, V, h1, h2⟩ := C.ex
  exact PT.imp (pt_cmpR ho ha hb (nomark b h1 h2)) (tt_of (te_op2 V))
theorem de_in (hu : X.A.units + 65 < cLine) (ha : DE X cA W fa a) (hb : DP X cA W fb b) (hm : behindInMarks .In b = false := by kernel_rfl) : DE X cA W (dOp2 gIn fa fb) (.Compare a [.In] [b] pos) :=
  PE.imp (pe_cmpR (op_inAll hu) ha hb hm) (te_opP vop_in gIn_at)
theorem dt_notin (hu : X.A.units + 65 < cLine) (ha : DE X cA W fa a) (hb : DP X cA W fb b) (hm : behindInMarks .NotIn b = false := by kernel_rfl) : DT X cA W (dB (dOp2 gNotIn fa fb)) (.Compare a [.NotIn] [b] pos) :=
  PT.imp (pt_cmpR (op_notInAll hu) ha hb hm) (tt_of (te_opP vop_notin gNotIn_at))
def dChain (g g' : D → D → Option D) (fa fb fc : Env → Out D) : Env → Out D := fun ρ => match fa ρ with
  | .ok d1 ρ1 => (match fb ρ1 with
    | .ok d2 ρ2 => (match g d1 d2 with
      | some (.a (.bl true)) => (match d2 with
        | .a y => (match fc ρ2 with
          | .ok d3 ρ3 => (match g' (.a y) d3 with
            | some d => .ok d ρ3
            | none => .st)
          | .ex e ρ3 => .ex e ρ3
          | .st => .st)
        | _ => .st)
      | some (.a (.bl false)) => .ok (.bl false) ρ2
      | _ => .st)
    | .ex e ρ2 => .ex e ρ2
    | .st => .st)
  | .ex e ρ1 => .ex e ρ1
  | .st => .st
theorem te_chain {K : PySem.W.Frag} {r r' : R2} {g g' : D → D → Option D} (V : VOp2 K cA r g) (V' : VOp2 K cA r' g') : ∀ σ H Q, TEof K cA W (dChain g g' fa fb fc) σ H Q → tChain r r' (TEof K cA W fa) (TEof K cA W fb) (TEof K cA W fc) σ H Q := by
  rintro σ H Q ⟨Z, L, ρ, r0, w, p⟩
  refine ⟨Z, L, ρ, r0, w, ?_⟩
  unfold dChain at p
  cases ha : fa ρ with
  | st => rw [ha] at p; exact p
  | ex e ρ' => rw [ha] at p; exact p
  | ok d1 ρ1 =>
    rw [ha] at p
    intro v1 H1 Z1 L1 f1 r1 w1 h1 F1
    refine ⟨Z1, L1, ρ1, r1, w1.less (List.sublist_append_right _ _), ?_⟩
    dsimp only at p
    cases hb : fb ρ1 with
    | st => rw [hb] at p; exact p
    | ex e ρ' =>
      rw [hb] at p
      exact exw p (F1.less fun x m => by simp [m])
    | ok d2 ρ2 =>
      rw [hb] at p
      intro v2 H2 Z2 L2 f2 r2 w2 h2 F2
      dsimp only at p
      have w12 : Wf H2 Z2 (f1 ++ (f2 ++ L2)) := w1.wait (repD_trk d1 h1) (repD_nt d1 h1) F2 w2
      have F12 := Fr.wait w1 F1 F2
      rw [← List.append_assoc] at w12 F12
      cases hg : g d1 d2 with
      | none => rw [hg] at p; exact p.elim
      | some d =>
        rw [hg] at p
        refine V.run (repD_wait w1 h1 F2) h2 (w12.less (List.sublist_append_left _ _)) hg fun v H3 Z3 fp h3 w3 F3 => ?_
        obtain ⟨r3, w4, F4⟩ := hand w12 r2 F3 w3
        cases d with
        | n k o xs => exact p.elim
        | a x =>
          cases x with
          | non => exact p.elim
          | int i => exact p.elim
          | str s => exact p.elim
          | bl k =>
            obtain ⟨e1, e2⟩ := h3
            subst e1 e2
            refine ⟨k, rfl, ?_⟩
            have F5 := F12.trans F4
            cases k with
            | false =>
              rw [if_neg Bool.false_ne_true]
              exact p _ H3 Z3 L2 [] r3 w4 ⟨rfl, rfl⟩ F5
            | true =>
              rw [if_pos rfl]
              dsimp only at p
              cases d2 with
              | n k o xs => exact p.elim
              | a y =>
                obtain ⟨e1, e2⟩ := h2
                subst e1 e2
                dsimp only at p
                refine ⟨Z3, L2, ρ2, r3, w4, ?_⟩
                cases hc : fc ρ2 with
                | st => rw [hc] at p; exact p
                | ex e ρ' =>
                  rw [hc] at p
                  exact exw p F5
                | ok d3 ρ3 =>
                  rw [hc] at p
                  intro v5 H5 Z5 L5 f5 r5 w5 h5 F6
                  dsimp only at p
                  cases hg' : g' (.a y) d3 with
                  | none => rw [hg'] at p; exact p.elim
                  | some d =>
                    rw [hg'] at p
                    refine V'.run (f1 := []) (d1 := .a y) ⟨rfl, rfl⟩ h5 (w5.less (List.sublist_append_left _ _)) hg' fun v H6 Z6 fp h6 w6 F7 => ?_
                    obtain ⟨r7, w7, F8⟩ := hand w5 r5 F7 w6
                    exact p v H6 Z6 L5 fp r7 w7 h6 ((F5.trans F6).trans F8)
theorem de_chain {op op' : CmpOp} {g g' : D → D → Option D} (C : CR2 X cA op g) (C' : CR2 X cA op' g') (ha : DE X cA W fa a) (hb : DE X cA W fb b) (hc : DE X cA W fc c)
    (hm : lastMarks [op, op'] [b, c] = false := by kernel_rfl) : DE X cA W (dChain g g' fa fb fc) (.Compare a [op, op'] [b, c] pos) := by
  obtain ⟨r, ho, V, h1, h2⟩ := C.ex
  obtain ⟨r', ho', V', h1', h2'⟩ := C'.ex
  exact PE.imp (pe_chain ho ho' ha hb hc hm) (te_chain V V')
def dAndT (f g : Env → Out Bool) : Env → Out Bool := fun ρ => match f ρ with
  | .ok true ρ1 => g ρ1
  | .ok false ρ1 => .ok false ρ1
  | .ex e ρ1 => .ex e ρ1
  | .st => .st
def dOrT (f g : Env → Out Bool) : Env → Out Bool := fun ρ => match f ρ with
  | .ok true ρ1 => .ok true ρ1
  | .ok false ρ1 => g ρ1
  | .ex e ρ1 => .ex e ρ1
  | .st => .st
def dNotT (f : Env → Out Bool) : Env → Out Bool := fun ρ => match f ρ with
  | .ok b ρ1 => .ok (!b) ρ1
  | .ex e ρ1 => .ex e ρ1
  | .st => .st
variable {ta tb : Env → Out Bool} {rest : List Expr}
theorem dw_and1 (ha : DT X cA W ta a) : DW X cA W ta (.BoolOp .And [a] pos) := pw_and1 ha
theorem dw_or1 (ha : DT X cA W ta a) : DW X cA W ta (.BoolOp .Or [a] pos) := pw_or1 ha
theorem tt_and {K : PySem.W.Frag} : ∀ σ H Q, TTof K cA W (dAndT ta tb) σ H Q → tAnd (TTof K cA W ta) (TTof K cA W tb) σ H Q := by
  rintro σ H Q ⟨Z, L, ρ, r0, w, p⟩
  refine ⟨Z, L, ρ, r0, w, ?_⟩
  unfold dAndT at p
  cases ha : ta ρ with
  | st => rw [ha] at p; exact p
  | ex e ρ' => rw [ha] at p; exact p
  | ok k ρ1 =>
    rw [ha] at p
    intro H1 Z1 L1 r1 w1 F1
    cases k with
    | false => exact p H1 Z1 L1 r1 w1 F1
    | true =>
      rw [if_pos rfl]
      refine ⟨Z1, L1, ρ1, r1, w1, ?_⟩
      dsimp only at p
      cases hb : tb ρ1 with
      | st => rw [hb] at p; exact p
      | ex e ρ' => rw [hb] at p; exact exw p F1
      | ok k ρ2 =>
        rw [hb] at p
        exact fun H2 Z2 L2 r2 w2 F2 => p H2 Z2 L2 r2 w2 (F1.trans F2)
theorem tt_or {K : PySem.W.Frag} : ∀ σ H Q, TTof K cA W (dOrT ta tb) σ H Q → tOr (TTof K cA W ta) (TTof K cA W tb) σ H Q := by
  rintro σ H Q ⟨Z, L, ρ, r0, w, p⟩
  refine ⟨Z, L, ρ, r0, w, ?_⟩
  unfold dOrT at p
  cases ha : ta ρ with
  | st => rw [ha] at p; exact p
  | ex e ρ' => rw [ha] at p; exact p
  | ok k ρ1 =>
    rw [ha] at p
    intro H1 Z1 L1 r1 w1 F1
    cases k with
    | true => exact p H1 Z1 L1 r1 w1 F1
    | false =>
      rw [if_neg Bool.false_ne_true]
      refine ⟨Z1, L1, ρ1, r1, w1, ?_⟩
      dsimp only at p
      cases hb : tb ρ1 with
      | st => rw [hb] at p; exact p
      | ex e ρ' => rw [hb] at p; exact exw p F1
      | ok k ρ2 =>
        rw [hb] at p
        exact fun H2 Z2 L2 r2 w2 F2 => p H2 Z2 L2 r2 w2 (F1.trans F2)
theorem dw_and (ha : DT X cA W ta a) (hb : DW X cA W tb (.BoolOp .And (b :: rest) pos)) : DW X cA W (dAndT ta tb) (.BoolOp .And (a :: b :: rest) pos) := PW.imp (pw_and ha hb) tt_and
theorem dw_or (ha : DT X cA W ta a) (hb : DW X cA W tb (.BoolOp .Or (b :: rest) pos)) : DW X cA W (dOrT ta tb) (.BoolOp .Or (a :: b :: rest) pos) := PW.imp (pw_or ha hb) tt_or
theorem dt_w {e : Expr} (h : DW X cA W ta e) : DT X cA W ta e := h.pt
def dAndV (f g : Env → Out D) : Env → Out D := fun ρ => match dB f ρ with
  | .ok true ρ1 => g ρ1
  | .ok false ρ1 => .ok (.bl false) ρ1
  | .ex e ρ1 => .ex e ρ1
  | .st => .st
def dOrV (f g : Env → Out D) : Env → Out D := fun ρ => match dB f ρ with
  | .ok true ρ1 => .ok (.bl true) ρ1
  | .ok false ρ1 => g ρ1
  | .ex e ρ1 => .ex e ρ1
  | .st => .st
def dNotV (f : Env → Out D) : Env → Out D := fun ρ => match dB f ρ with
  | .ok b ρ1 => .ok (.bl (!b)) ρ1
  | .ex e ρ1 => .ex e ρ1
  | .st => .st
theorem de_one {op} {f : Env → Out D} (h : DE X cA W f a) : DE X cA W f (.BoolOp op [a] pos) := pe_one h
theorem te_and {K : PySem.W.Frag} : ∀ σ H Q, TEof K cA W (dAndV fa fb) σ H Q → tAndV (TEof K cA W fa) (TEof K cA W fb) σ H Q := by
  rintro σ H Q ⟨Z, L, ρ, r0, w, p⟩
  refine tt_of (f := fa) (fun _ _ _ t => t) σ H (fun k H1 => if k = true then TEof K cA W fb σ H1 Q else Q (.bl false) H1) ⟨Z, L, ρ, r0, w, ?_⟩
  unfold dAndV at p
  cases ha : dB fa ρ with
  | st => rw [ha] at p; exact p
  | ex e ρ' => rw [ha] at p; exact p
  | ok k ρ1 =>
    rw [ha] at p
    intro H1 Z1 L1 r1 w1 F1
    cases k with
    | false =>
      show Q (.bl false) H1
      exact p _ H1 Z1 L1 [] r1 w1 ⟨rfl, rfl⟩ F1
    | true =>
      show TEof K cA W fb σ H1 Q
      refine ⟨Z1, L1, ρ1, r1, w1, ?_⟩
      dsimp only at p
      cases hb : fb ρ1 with
      | st => rw [hb] at p; exact p
      | ex e ρ' => rw [hb] at p; exact exw p F1
      | ok k ρ2 =>
        rw [hb] at p
        exact fun v H2 Z2 L2 fp r2 w2 h2 F2 => p v H2 Z2 L2 fp r2 w2 h2 (F1.trans F2)
theorem te_not {K : PySem.W.Frag} : ∀ σ H Q, TEof K cA W (dNotV fa) σ H Q → tNotV (TEof K cA W fa) σ H Q := by
  rintro σ H Q ⟨Z, L, ρ, r0, w, p⟩
  refine tt_of (f := fa) (fun _ _ _ t => t) σ H (fun k H1 => Q (.bl (!k)) H1) ⟨Z, L, ρ, r0, w, ?_⟩
  unfold dNotV at p
  cases ha : dB fa ρ with
  | st => rw [ha] at p; exact p
  | ex e ρ' => rw [ha] at p; exact p
  | ok k ρ1 =>
    rw [ha] at p
    exact fun H1 Z1 L1 r1 w1 F1 => p _ H1 Z1 L1 [] r1 w1 ⟨rfl, rfl⟩ F1
theorem de_and2 (ha : DE X cA W fa a) (hb : DE X cA W fb (.BoolOp .And (b :: rest) pos)) : DE X cA W (dAndV fa fb) (.BoolOp .And (a :: b :: rest) pos) := PE.imp (pe_and ha hb) te_and
theorem de_notV (ha : DE X cA W fa a) : DE X cA W (dNotV fa) (.UnaryOp .Not a pos) := PE.imp (pe_not ha) te_not
def dIfE (t : Env → Out Bool) (f g : Env → Out D) : Env → Out D := fun ρ => match t ρ with
  | .ok true ρ1 => f ρ1
  | .ok false ρ1 => g ρ1
  | .ex e ρ1 => .ex e ρ1
  | .st => .st
end
def dANil : Env → Out (List Ag) := fun ρ => .ok [] ρ
def dACons (f : Env → Out D) (g : Env → Out (List Ag)) : Env → Out (List Ag) := fun ρ => match f ρ with
  | .ok d ρ1 => (match g ρ1 with
    | .ok ds ρ2 => .ok (.d d :: ds) ρ2
    | .ex e ρ2 => .ex e ρ2
    | .st => .st)
  | .ex e ρ1 => .ex e ρ1
  | .st => .st
def dALent (i : Nat) (g : Env → Out (List Ag)) : Env → Out (List Ag) := fun ρ => match ρ[i]? with
  | some (some _) => (match g ρ with
    | .ok ds ρ2 => .ok (.s i :: ds) ρ2
    | .ex e ρ2 => .ex e ρ2
    | .st => .st)
  | _ => .st
section
variable {X : Cx} {cA : Str → Addr} {W : WX} {f : Env → Out D} {g : Env → Out (List Ag)} {e : Expr} {es : List Expr}
theorem da_nil : DA X cA W dANil [] := da_of pa_nil fun σ H Q Z L ρ r w p => p [] H Z L [] r w ⟨rfl, rfl⟩ Fr.refl
theorem da_cons (hf : DE X cA W f e) (hg : DA X cA W g es) (hs : starEach (e :: es) X.env = (false, eval e X.env) :: starEach es X.env := by kernel_rfl) : DA X cA W (dACons f g) (e :: es) := da_of (pa_cons hf hg hs) fun σ H Q Z L ρ r w p => by
  refine ⟨Z, L, ρ, r, w, ?_⟩
  unfold dACons at p
  cases ha : f ρ with
  | st => rw [ha] at p; exact p
  | ex e ρ' => rw [ha] at p; exact p
  | ok d1 ρ1 =>
    rw [ha] at p
    intro v1 H1 Z1 L1 f1 r1 w1 h1 F1
    refine ⟨Z1, L1, ρ1, r1, w1.less (List.sublist_append_right _ _), ?_⟩
    dsimp only at p
    cases hb : g ρ1 with
    | st => rw [hb] at p; exact p
    | ex e ρ' =>
      rw [hb] at p
      exact exw p (F1.less fun x m => by simp [m])
    | ok ds ρ2 =>
      rw [hb] at p
      intro vs H2 Z2 L2 f2 r2 w2 h2 F2
      have w12 : Wf H2 Z2 (f1 ++ (f2 ++ L2)) := w1.wait (repD_trk d1 h1) (repD_nt d1 h1) F2 w2
      have F12 := Fr.wait w1 F1 F2
      rw [← List.append_assoc] at w12 F12
      exact p (v1 :: vs) H2 Z2 L2 (f1 ++ f2) r2 w12 ⟨v1, vs, f1, f2, rfl, repD_wait w1 h1 F2, h2, rfl⟩ F12
theorem da_lent {i : Nat} (hf : PE X e (tVar i)) (hg : DA X cA W g es) (hs : starEach (e :: es) X.env = (false, eval e X.env) :: starEach es X.env := by kernel_rfl) : DA X cA W (dALent i g) (e :: es) := da_of (pa_cons hf hg hs) fun σ H Q Z L ρ r w p => by
  unfold dALent at p
  split at p
  · rename_i d hd
    obtain ⟨v, f0, f1, f2, hv, hr, ef, _, _⟩ := relL_at r hd
    refine ⟨v, hv, Z, L, ρ, r, w, ?_⟩
    cases hb : g ρ with
    | st => rw [hb] at p; exact p
    | ex e ρ' => rw [hb] at p; exact p
    | ok ds ρ2 =>
      rw [hb] at p
      exact fun vs H2 Z2 L2 fp r2 w2 h2 F2 => p (v :: vs) H2 Z2 L2 fp r2 w2 ⟨v, vs, rfl, hv, h2⟩ F2
  · exact p.elim
end
def agL : List Ag → Option (List D)
  | [] => some []
  | .d x :: xs => (agL xs).map (x :: ·)
  | .s _ :: _ => none
theorem repA_L {K : PySem.W.Frag} {cA : Str → Addr} {σ : L2.St} {H : Hp} {Z : ZS} : ∀ {ds : List Ag} {xs : List D} {vs : List V} {fp : FP}, agL ds = some xs → RepA K cA H Z σ ds vs fp → RepL K cA H Z xs vs fp
  | [], xs, vs, fp, e, h => by
    cases e
    exact h
  | .d x :: ds, xs, vs, fp, e, h => by
    obtain ⟨v, vs', f1, f2, ev, h1, h2, ef⟩ := h
    unfold agL at e
    cases hd : agL ds with
    | none => rw [hd] at e; cases e
    | some ys =>
      rw [hd] at e
      cases e
      exact ⟨v, vs', f1, f2, ev, h1, repA_L hd h2, ef⟩
  | .s i :: ds, xs, vs, fp, e, h => by simp [agL] at e
def dTup (g : Env → Out (List Ag)) : Env → Out D := fun ρ => match g ρ with
  | .ok ds ρ1 => (match agL ds with
    | some xs => if xs.length ≤ cap then .ok (.tup (frzL xs)) ρ1 else .st
    | none => .st)
  | .ex e ρ1 => .ex e ρ1
  | .st => .st
def dLst (g : Env → Out (List Ag)) : Env → Out D := fun ρ => match g ρ with
  | .ok ds ρ1 => (match agL ds with
    | some xs => if xs.length ≤ cap then .ok (.lst true xs) ρ1 else .st
    | none => .st)
  | .ex e ρ1 => .ex e ρ1
  | .st => .st
section
variable {X : Cx} {cA : Str → Addr} {W : WX} {g : Env → Out (List Ag)} {es : List Expr} {pos : Pos}
theorem de_tup {x1} (h : DA X cA W g es) : DE X cA W (dTup g) (.Tuple es x1 pos) := de_of (pe_tupN h) fun σ H Q Z L ρ r w p => by
  refine ⟨Z, L, ρ, r, w, ?_⟩
  unfold dTup at p
  cases ha : g ρ with
  | st => rw [ha] at p; exact p
  | ex e ρ' => rw [ha] at p; exact p
  | ok ds ρ1 =>
    rw [ha] at p
    dsimp only at p
    split at p
    · rename_i xs hx
      split at p
      · rename_i hl
        intro vs H1 Z1 L1 f1 r1 w1 h1 F1
        have hL := repA_L hx h1
        have len := repL_len hL
        refine ⟨cap_le (by omega), fun q ob hq ho => ?_⟩
        have wz := w1.freeze (repL_trk xs hL)
        obtain ⟨a, b, c⟩ := new_tup (wf0 wz) (repL_zu hL) hq ho
        obtain ⟨r3, w3, F3⟩ := hand0 wz (relL_zu r1) c b
        exact p _ _ _ L1 [] r3 w3 a (F1.freeze.trans F3)
      · exact p.elim
    · exact p.elim
theorem de_lst (h : DA X cA W g es) : DE X cA W (dLst g) (.List es pos) := de_of (pe_lst h) fun σ H Q Z L ρ r w p => by
  refine ⟨Z, L, ρ, r, w, ?_⟩
  unfold dLst at p
  cases ha : g ρ with
  | st => rw [ha] at p; exact p
  | ex e ρ' => rw [ha] at p; exact p
  | ok ds ρ1 =>
    rw [ha] at p
    dsimp only at p
    split at p
    · rename_i xs hx
      split at p
      · rename_i hl
        intro vs H1 Z1 L1 f1 r1 w1 h1 F1
        have hL := repA_L hx h1
        have len := repL_len hL
        refine ⟨cap_le (by omega), fun q hq => ?_⟩
        have kn := keep_new (o := .lst vs) hq
        have tr : ∀ a ∈ f1 ++ L1, ∃ o, H1 a = some o := fun a m => (List.mem_append.mp m).elim (repL_trk xs hL a) (relL_trk r1 a)
        refine p (.ref q) _ Z1 L1 (q :: f1) (relL_mono (fun _ z => z) (fun a o _ e => kn a o e) r1) (wf_new w1 hq tr) ⟨q, vs, f1, rfl, repL_mono xs (fun _ z => z) (fun a o _ e => kn a o e) hL, ⟨upd_same, fun z => nomatch z⟩, rfl, fun z => nomatch z⟩ (F1.trans (fr_new hq))
      · exact p.elim
    · exact p.elim
end
end DL
namespace DL
open PySem L2
def TQof (K : PySem.W.Frag) (cA : Str → Addr) (g : Env → Option At) : TE := fun σ H Q => ∃ Z L ρ, RelL K cA H Z ρ σ L ∧ Wf H Z L ∧ ∃ x, g ρ = some x ∧ ∀ H', (∀ a o, H a = some o → H' a = some o) → Q x.v H'
def DQ (X : Cx) (cA : Str → Addr) (g : Env → Option At) (e : Expr) : Prop := PE X e (TQof X.K cA g)
def qC (x : At) : Env → Option At := fun _ => some x
def qVar (i : Nat) : Env → Option At := fun ρ => match ρ[i]? with
  | some (some (.a x)) => some x
  | _ => none
def qOp (f : Int → Int → Int) (g h : Env → Option At) : Env → Option At := fun ρ => match g ρ, h ρ with
  | some (.int i), some (.int j) => some (.int (f i j))
  | _, _ => none
section
variable {X : Cx} {cA : Str → Addr} {W : WX} {g h : Env → Option At} {a b : Expr} {pos : Pos}
theorem dq_int {i : Int} {j pos} : DQ X cA (qC (.int i)) (.Constant (.int i) j pos) := PE.imp pe_int fun σ H Q ⟨Z, L, ρ, r, w, x, e, q⟩ => by
  cases e
  exact q H fun _ _ e => e
end
def gIxO (x y : D) : Option D := match y with
  | .a (.int i) => (match x with
    | .n .lst _ xs => atI xs i
    | .n .scr _ xs => atI xs i
    | .n .tup _ xs => atI xs i
    | .a (.str s) => if s.length ≤ cap then (atI s.cps.toList i).map fun c => D.str ⟨#[c]⟩ else none
    | _ => none)
  | _ => none
def gIx (x y : D) : Option D := match gIxO x y with
  | some d => if isF d = true then some d else none
  | none => none
section
variable {K : PySem.W.Frag} {cA : Str → Addr} {H : Hp} {Z : ZS}
theorem atI_rep {xs : List D} {vs : List V} {g : FP} {i : Int} {d : D} (h : RepL K cA H Z xs vs g) (e : atI xs i = some d) : ∃ v f0 f1 f2, atI vs i = some v ∧ RepD K cA H Z d v f1 ∧ g = f0 ++ f1 ++ f2 := by
  unfold atI at e ⊢
  rw [repL_len h]
  cases hj : ixN xs.length i with
  | none => rw [hj] at e; cases e
  | some j =>
    rw [hj] at e
    exact repL_get h e
theorem ix_rep {x y d : D} {v1 v2 : V} {f1 f2 : FP} {Q : VK} (h1 : RepD K cA H Z x v1 f1) (h2 : RepD K cA H Z y v2 f2) (hg : gIxO x y = some d) (q : ∀ v f0 f f3, RepD K cA H Z d v f → (f = [] ∨ ∃ p, f1 = p :: (f0 ++ f ++ f3)) → Q v H) : rIx K v1 v2 H Q := by
  unfold gIxO at hg
  split at hg
  · rename_i i
    obtain ⟨e2, _⟩ := h2
    subst e2
    split at hg
    · rename_i o xs
      obtain ⟨p, vs, g, rfl, e1, r1, ef, hz⟩ := rep_lst h1
      obtain ⟨v, g0, g1, g2, hv, hr, eg⟩ := atI_rep r1 hg
      refine .inl ⟨p, vs, i, v, rfl, rfl, SqL.of e1, hv, q v g0 g1 g2 hr ?_⟩
      cases o with
      | true => exact .inr ⟨p, by rw [ef, eg]; rfl⟩
      | false =>
        have := (hz rfl).2
        rw [this] at eg
        left
        have e3 := congrArg List.length eg
        simp at e3
        exact List.eq_nil_of_length_eq_zero (by omega)
    · rename_i o xs
      obtain ⟨p, vs, rfl, e1, r1, ef, _⟩ := rep_scr h1
      obtain ⟨v, g0, g1, g2, hv, hr, eg⟩ := atI_rep r1 hg
      refine .inl ⟨p, vs, i, v, rfl, rfl, e1, hv, q v g0 g1 g2 hr ?_⟩
      left
      have e3 := congrArg List.length eg
      simp at e3
      exact List.eq_nil_of_length_eq_zero (by omega)
    · rename_i o xs
      obtain ⟨p, vs, rfl, e1, r1, ef, _⟩ := rep_tup h1
      obtain ⟨v, g0, g1, g2, hv, hr, eg⟩ := atI_rep r1 hg
      refine .inr (.inl ⟨p, vs, i, v, rfl, rfl, e1, hv, q v g0 g1 g2 hr ?_⟩)
      left
      have e3 := congrArg List.length eg
      simp at e3
      exact List.eq_nil_of_length_eq_zero (by omega)
    · rename_i s
      split at hg
      · rename_i hs
        obtain ⟨e1, _⟩ := h1
        subst e1
        cases hc : atI s.cps.toList i with
        | none => rw [hc] at hg; cases hg
        | some c =>
          rw [hc] at hg
          cases hg
          exact .inr (.inr ⟨s, i, c, rfl, rfl, cap_le hs, hc, q _ [] [] [] ⟨rfl, rfl⟩ (.inl rfl)⟩)
      · cases hg
    · cases hg
  · cases hg
theorem vop_ix : VOp2 K cA (rIx K) gIx := by
  refine ⟨@fun d1 d2 d v1 v2 H Z f1 f2 Q h1 h2 w hg q => ?_⟩
  unfold gIx at hg
  split at hg
  · rename_i d' hd
    split at hg
    · rename_i hf
      cases hg
      refine ix_rep h1 h2 hd fun v f0 f f3 hr _ => ?_
      have e := repD_isF d hr hf
      subst e
      exact q v H Z [] hr (wf0 w) (Fr.refl.less fun _ m => nomatch m)
    · cases hg
  · cases hg
end
section
variable {X : Cx} {cA : Str → Addr} {W : WX} {fa fb : Env → Out D} {a b : Expr} {pos : Pos}
theorem de_ix (ha : DE X cA W fa a) (hb : DE X cA W fb b) (hs : PlainIx b := by exact fun _ _ => rfl) : DE X cA W (dOp2 gIx fa fb) (.Subscript a b pos) := PE.imp (pe_ix ix_seq ha hb hs) (te_op2 vop_ix)
def dIxS (i : Nat) (fb : Env → Out D) : Env → Out D := fun ρ => match fb ρ with
  | .ok k ρ1 => (match ρ1[i]? with
    | some (some x) => (match gIxO x k with
      | some d => .ok d ρ1
      | none => .st)
    | _ => .st)
  | .ex e ρ1 => .ex e ρ1
  | .st => .st
theorem slot_now {K : PySem.W.Frag} {H : Hp} {Z : ZS} {ρ ρ1 : Env} {σ : L2.St} {L : FP} {i : Nat} {v : V} {d : D} (r : RelL K cA H Z ρ1 σ L) (h : ρ1[i]? = some (some d)) (hv : σ[i]? = some (some v)) : ∃ f0 f1 f2, RepD K cA H Z d v f1 ∧ L = f0 ++ f1 ++ f2 := by
  obtain ⟨v', f0, f1, f2, hv', hr, ef, _, _⟩ := relL_at r h
  rw [hv] at hv'
  cases hv'
  exact ⟨f0, f1, f2, hr, ef⟩
theorem dp_ixS {i : Nat} (ha : PE X a (tVar i)) (hb : DE X cA W fb b) (hi : ∀ ρ ρ1 : Env, True := by intros; trivial) (hs : PlainIx b := by exact fun _ _ => rfl) : DP X cA W (fun ρ => match ρ[i]? with | some (some _) => dIxS i fb ρ | _ => .st) (.Subscript a b pos) :=
  dp_of (pe_ix ix_seq ha hb hs) fun σ H Q Z L ρ r w p => by
    split at p
    · rename_i d0 hd0
      obtain ⟨v, _, _, _, hv, _, _, _, _⟩ := relL_at r hd0
      refine ⟨v, hv, Z, L, ρ, r, w, ?_⟩
      unfold dIxS at p
      cases hb' : fb ρ with
      | st => rw [hb'] at p; exact p
      | ex e ρ' => rw [hb'] at p; exact p
      | ok k ρ1 =>
        rw [hb'] at p
        intro y H1 Z1 L1 f1 r1 w1 h1 F1
        dsimp only at p
        split at p
        · rename_i x hx
          split at p
          · rename_i d hg
            obtain ⟨g0, g1, g2, hr, eL⟩ := slot_now (ρ := ρ) r1 hx hv
            refine ix_rep hr h1 hg fun u f0 f f3 hu _ => ?_
            exact p u H1 Z1 L1 f r1 (w1.less (List.sublist_append_right _ _)) hu (F1.less fun x m => by simp [m])
          · exact p.elim
        · exact p.elim
    · exact p.elim
def dIxV (i : Nat) (fb : Env → Out D) : Env → Out D := fun ρ => match ρ[i]? with
  | some (some _) => (match dIxS i fb ρ with
    | .ok d ρ1 => if isF d = true then .ok d ρ1 else .st
    | .ex e ρ1 => .ex e ρ1
    | .st => .st)
  | _ => .st
theorem de_dp {f : Env → Out D} {e : Expr} (h : DP X cA W f e) : DE X cA W (fun ρ => match f ρ with | .ok d ρ1 => if isF d = true then .ok d ρ1 else .st | .ex e ρ1 => .ex e ρ1 | .st => .st) e := de_of h fun σ H Q Z L ρ r w p => ⟨Z, L, ρ, r, w, by
  cases hf : f ρ with
  | st => rw [hf] at p; exact p
  | ex e ρ' => rw [hf] at p; exact p
  | ok d ρ1 =>
    rw [hf] at p
    dsimp only at p
    split at p
    · rename_i hd
      intro v H' Z' L' fp r' w' h' f'
      have e := repD_isF d h' hd
      subst e
      exact p v H' Z' L' [] r' w' h' f'
    · exact p.elim⟩
theorem de_ixS {i : Nat} (ha : PE X a (tVar i)) (hb : DE X cA W fb b) (hs : PlainIx b := by exact fun _ _ => rfl) : DE X cA W (dIxV i fb) (.Subscript a b pos) := by
  refine PE.imp (de_dp (dp_ixS ha hb (hs := hs))) fun σ H Q ⟨Z, L, ρ, r, w, p⟩ => ⟨Z, L, ρ, r, w, ?_⟩
  unfold dIxV at p
  dsimp only
  split at p
  · exact p
  · exact p.elim
def dIxP (fa : Env → Out D) (g : Env → Option At) : Env → Out D := fun ρ => match fa ρ with
  | .ok x ρ1 => (match g ρ1 with
    | some k => (match gIxO x (.a k) with
      | some d => .ok d ρ1
      | none => .st)
    | none => .st)
  | .ex e ρ1 => .ex e ρ1
  | .st => .st
theorem dp_ixP {g : Env → Option At} (ha : DP X cA W fa a) (hb : DQ X cA g b) (hs : PlainIx b := by exact fun _ _ => rfl) : DP X cA W (dIxP fa g) (.Subscript a b pos) :=
  dp_of (pe_ix ix_seq ha hb hs) fun σ H Q Z L ρ r w p => by
    refine ⟨Z, L, ρ, r, w, ?_⟩
    unfold dIxP at p
    cases ha' : fa ρ with
    | st => rw [ha'] at p; exact p
    | ex e ρ' => rw [ha'] at p; exact p
    | ok x ρ1 =>
      rw [ha'] at p
      intro v H1 Z1 L1 f1 r1 w1 h1 F1
      dsimp only at p
      split at p
      · rename_i k hk
        split at p
        · rename_i d hg
          refine ⟨Z1, L1, ρ1, r1, w1, k, hk, fun H2 k2 => ?_⟩
          have w2 : Wf H2 Z1 L1 := ⟨w1.nd, w1.dj, fun a z => let ⟨o, e⟩ := w1.tz a z; ⟨o, k2 a o e⟩⟩
          refine ix_rep (y := .a k) (f2 := []) (repD_mono x (fun _ z => z) (fun a o _ e => k2 a o e) h1) ⟨rfl, rfl⟩ hg fun u f0 f f3 hu _ => ?_
          refine p u H2 Z1 L1 f (relL_mono (fun _ z => z) (fun a o _ e => k2 a o e) r1) w2 hu (F1.trans ⟨fun a o e _ => k2 a o e, fun _ z => z, fun _ z => .inl z, fun _ m => .inl m⟩)
        · exact p.elim
      · exact p.elim
end
def cutD (xs : List D) (lo hi : Option Int) : List D := (xs.drop (HT.sIx xs.length 0 lo)).take (HT.sIx xs.length xs.length hi - HT.sIx xs.length 0 lo)
def gSl (x : D) (lo hi : Option Int) : Option D := match x with
  | .n .lst _ xs => if isFL xs = true then some (.lst true (cutD xs lo hi)) else none
  | .n .scr _ xs => if isFL xs = true then some (.lst true (cutD xs lo hi)) else none
  | .n .tup _ xs => some (.tup (cutD xs lo hi))
  | .a (.str s) => if s.length ≤ cap then some (.str (cutS s lo hi)) else none
  | _ => none
section
variable {K : PySem.W.Frag} {cA : Str → Addr} {H : Hp} {Z : ZS}
theorem repL_drop {xs : List D} {vs : List V} (h : RepL K cA H Z xs vs []) : ∀ n : Nat, RepL K cA H Z (xs.drop n) (vs.drop n) [] := by
  induction xs generalizing vs with
  | nil => intro n; rw [h.1]; simp only [List.drop_nil]; exact ⟨rfl, rfl⟩
  | cons x xs ih =>
    obtain ⟨v, vs', f1, f2, ev, h1, h2, ef⟩ := h
    subst ev
    have e := List.append_eq_nil_iff.mp ef.symm
    rw [e.1] at h1
    rw [e.2] at h2
    intro n
    cases n with
    | zero => exact ⟨v, vs', [], [], rfl, h1, h2, rfl⟩
    | succ n => exact ih h2 n
theorem repL_take {xs : List D} {vs : List V} (h : RepL K cA H Z xs vs []) : ∀ n : Nat, RepL K cA H Z (xs.take n) (vs.take n) [] := by
  induction xs generalizing vs with
  | nil => intro n; rw [h.1]; simp only [List.take_nil]; exact ⟨rfl, rfl⟩
  | cons x xs ih =>
    obtain ⟨v, vs', f1, f2, ev, h1, h2, ef⟩ := h
    subst ev
    have e := List.append_eq_nil_iff.mp ef.symm
    rw [e.1] at h1
    rw [e.2] at h2
    intro n
    cases n with
    | zero => exact ⟨rfl, rfl⟩
    | succ n => exact ⟨v, vs'.take n, [], [], rfl, h1, ih h2 n, rfl⟩
theorem repL_cut {xs : List D} {vs : List V} (h : RepL K cA H Z xs vs []) (lo hi : Option Int) : RepL K cA H Z (cutD xs lo hi) (cutV vs lo hi) [] := by
  unfold cutD cutV
  rw [repL_len h]
  exact repL_take (repL_drop h _) _
abbrev rSlDD (K : PySem.W.Frag) : V → Option Int → Option Int → Hp → VK → Prop := fun x lo hi H Q => rSlL K x lo hi H Q ∨ rSlN K x lo hi H Q ∨ rSlS x lo hi H Q
theorem sl_rep {x d : D} {v1 : V} {f1 : FP} {lo hi : Option Int} {Q : VK} (h1 : RepD K cA H Z x v1 f1) (w : Wf H Z []) (hg : gSl x lo hi = some d) (q : ∀ v H' Z' fp, RepD K cA H' Z' d v fp → Wf H' Z' fp → Fr H Z [] H' Z' fp → Q v H') : rSlDD K v1 lo hi H Q := by
  unfold gSl at hg
  split at hg
  · rename_i o xs
    split at hg
    · rename_i hf
      cases hg
      obtain ⟨p, vs, g, rfl, e1, r1, _⟩ := rep_lst h1
      refine .inl ⟨p, vs, rfl, SqL.of e1, fun p0 hp => ?_⟩
      obtain ⟨a, b, c⟩ := new_lst w (repL_cut (repL_fl r1 hf) lo hi) hp
      exact q _ _ _ _ a b c
    · cases hg
  · rename_i o xs
    split at hg
    · rename_i hf
      cases hg
      obtain ⟨p, vs, rfl, e1, r1, _⟩ := rep_scr h1
      refine .inl ⟨p, vs, rfl, e1, fun p0 hp => ?_⟩
      obtain ⟨a, b, c⟩ := new_lst w (repL_cut r1 lo hi) hp
      exact q _ _ _ _ a b c
    · cases hg
  · rename_i o xs
    cases hg
    obtain ⟨p, vs, rfl, e1, r1, _, _, c1⟩ := rep_tup h1
    have rc := repL_cut r1 lo hi
    refine .inr (.inl ⟨p, vs, rfl, e1, fun e => ?_, fun _ p0 ob hp ho => ?_⟩)
    · have hv : cutV vs lo hi = vs := by
        unfold cutV
        rw [e.1, e.2, List.drop_zero, Nat.sub_zero, List.take_length]
      rw [hv] at rc
      exact q _ H Z [] ⟨p, vs, [], rfl, rc, ⟨rfl, c1⟩, rfl, fun _ => rfl⟩ w Fr.refl
    · obtain ⟨a, b, c⟩ := new_tup w rc hp ho
      exact q _ _ _ _ a b c
  · rename_i s
    split at hg
    · rename_i hs
      cases hg
      obtain ⟨e1, _⟩ := h1
      subst e1
      exact .inr (.inr ⟨s, rfl, cap_le hs, q _ H Z [] ⟨rfl, rfl⟩ w Fr.refl⟩)
    · cases hg
  · cases hg
end
def dPart : Option (Env → Out D) → Env → Out (Option Int)
  | none, ρ => .ok none ρ
  | some f, ρ => match f ρ with
    | .ok (.a (.int i)) ρ1 => .ok (some i) ρ1
    | .ok _ _ => .st
    | .ex e ρ1 => .ex e ρ1
    | .st => .st
def dSl (fa : Env → Out D) (lo hi : Option (Env → Out D)) : Env → Out D := fun ρ => match fa ρ with
  | .ok x ρ1 => (match dPart lo ρ1 with
    | .ok l ρ2 => (match dPart hi ρ2 with
      | .ok u ρ3 => (match gSl x l u with
        | some d => .ok d ρ3
        | none => .st)
      | .ex e ρ3 => .ex e ρ3
      | .st => .st)
    | .ex e ρ2 => .ex e ρ2
    | .st => .st)
  | .ex e ρ1 => .ex e ρ1
  | .st => .st
section
variable {X : Cx} {cA : Str → Addr} {W : WX} {fa fb : Env → Out D} {a b : Expr} {pos : Pos}
def PostO (K : PySem.W.Frag) (cA : Str → Addr) (W : WX) (σ : L2.St) (H : Hp) (Z : ZS) (L : FP) (Q : Option Int → Hp → Prop) : Out (Option Int) → Prop
  | .ok d ρ' => ∀ H' Z' L', RelL K cA H' Z' ρ' σ L' → Wf H' Z' L' → Fr H Z L H' Z' L' → Q d H'
  | .ex e ρ' => ∀ cls d H' Z' L', RelL K cA H' Z' ρ' σ L' → Wf H' Z' L' → ExR cA H' Z' e cls d → Fr H Z L H' Z' L' → W cls d σ H'
  | .st => False
def TOof (K : PySem.W.Frag) (cA : Str → Addr) (W : WX) (f : Env → Out (Option Int)) : TO := fun σ H Q => ∃ Z L ρ, RelL K cA H Z ρ σ L ∧ Wf H Z L ∧ PostO K cA W σ H Z L Q (f ρ)
def DO (X : Cx) (cA : Str → Addr) (W : WX) (f : Option (Env → Out D)) (e : Option Expr) : Prop := ∃ t, PO X e t ∧ ∀ σ H Q, TOof X.K cA W (dPart f) σ H Q → t σ H Q
theorem do_none : DO X cA W none none := ⟨_, po_none, fun σ H Q ⟨Z, L, ρ, r, w, p⟩ => p H Z L r w Fr.refl⟩
theorem do_some (h : DE X cA W fa a) : DO X cA W (some fa) (some a) := ⟨_, po_some h, fun σ H Q ⟨Z, L, ρ, r, w, p⟩ => by
  refine ⟨Z, L, ρ, r, w, ?_⟩
  unfold dPart at p
  dsimp only at p
  cases ha : fa ρ with
  | st => rw [ha] at p; exact p.elim
  | ex e ρ' => rw [ha] at p; exact p
  | ok x ρ1 =>
    rw [ha] at p
    intro v H1 Z1 L1 f1 r1 w1 h1 F1
    cases x with
    | n k o xs => exact p.elim
    | a x =>
      cases x with
      | int i =>
        obtain ⟨e1, e2⟩ := h1
        subst e1 e2
        exact ⟨i, rfl, p H1 Z1 L1 r1 w1 F1⟩
      | non => exact p.elim
      | bl b => exact p.elim
      | str s => exact p.elim⟩
theorem de_slice {lo hi : Option (Env → Out D)} {elo ehi : Option Expr} {p2 : Pos} (ha : DE X cA W fa a) (hl : DO X cA W lo elo) (hu : DO X cA W hi ehi) : DE X cA W (dSl fa lo hi) (.Subscript a (.Slice elo ehi none p2) pos) := by
  obtain ⟨tl, pl, il⟩ := hl
  obtain ⟨th, pu, iu⟩ := hu
  refine de_of (pe_slice (sl_list.or (sl_tupN.or sl_str)) ha pl pu) fun σ H Q Z L ρ r w p => ?_
  refine ⟨Z, L, ρ, r, w, ?_⟩
  unfold dSl at p
  cases ha' : fa ρ with
  | st => rw [ha'] at p; exact p
  | ex e ρ' => rw [ha'] at p; exact p
  | ok x ρ1 =>
    rw [ha'] at p
    intro v H1 Z1 L1 f1 r1 w1 h1 F1
    dsimp only at p
    refine il σ H1 _ ⟨Z1, L1, ρ1, r1, w1.less (List.sublist_append_right _ _), ?_⟩
    cases hl' : dPart lo ρ1 with
    | st => rw [hl'] at p; exact p
    | ex e ρ' => rw [hl'] at p; exact exw p (F1.less fun x m => by simp [m])
    | ok l ρ2 =>
      rw [hl'] at p
      intro H2 Z2 L2 r2 w2 F2
      dsimp only at p
      have w12 := w1.wait (repD_trk x h1) (repD_nt x h1) F2 w2
      have F12 := Fr.wait w1 F1 F2
      have h2 := repD_wait w1 h1 F2
      refine iu σ H2 _ ⟨Z2, L2, ρ2, r2, w2, ?_⟩
      cases hu' : dPart hi ρ2 with
      | st => rw [hu'] at p; exact p
      | ex e ρ' => rw [hu'] at p; exact exw p (F12.less fun x m => by simp [m])
      | ok u ρ3 =>
        rw [hu'] at p
        intro H3 Z3 L3 r3 w3 F3
        dsimp only at p
        have w13 := w12.wait (repD_trk x h2) (repD_nt x h2) F3 w3
        have F13 := Fr.wait w12 F12 F3
        have h3 := repD_wait w12 h2 F3
        cases hg : gSl x l u with
        | none => rw [hg] at p; exact p.elim
        | some d =>
          rw [hg] at p
          refine sl_rep h3 (wf0 w3) hg fun v H4 Z4 fp h4 w4 F4 => ?_
          obtain ⟨r5, w5, F5⟩ := hand0 w3 r3 F4 w4
          exact p v H4 Z4 L3 fp r5 w5 h4 ((F13.less fun x m => by simp [m]).trans F5)
end
end DL
namespace DL
open PySem L2
def RepIo (K : PySem.W.Frag) (cA : Str → Addr) (H : Hp) (Z : ZS) : Option Nat → Option D → List V → FP → Prop
  | some k, some d, vs, g => ∃ v, vs[k]? = some v ∧ RepD K cA H Z d v g
  | _, _, _, g => g = []
def PostF (K : PySem.W.Frag) (cA : Str → Addr) (kio : Option Nat) (vs : List V) (H : Hp) (Z : ZS) (L : FP) (Q : VK) (E : XK) : FR → Prop
  | .rt d io => ∀ v H' Z' fp g, RepIo K cA H' Z' kio io vs g → RepD K cA H' Z' d v fp → Wf H' Z' (fp ++ g) → Fr H Z L H' Z' (fp ++ g) → Q v H'
  | .ex e io => ∀ cls d H' Z' g, RepIo K cA H' Z' kio io vs g → Wf H' Z' g → ExR cA H' Z' e cls d → Fr H Z L H' Z' g → E cls d H'
  | .st => False
def spF (K : PySem.W.Frag) (cA : Str → Addr) (n : Nat) (kio : Option Nat) (F : List D → FR) : Sp := fun vs H Q E => vs.length = n ∧ ∃ ds Z L, RepL K cA H Z ds vs L ∧ Wf H Z L ∧ PostF K cA kio vs H Z L Q E (F ds)
def ioOf (kio : Option Nat) (ρ : Env) : Option D := match kio with
  | some k => (match ρ[k]? with
    | some (some d) => some d
    | _ => none)
  | none => none
def fnD (n : Nat) (kio : Option Nat) (body : Env → Fl) : List D → FR := fun ds => match body (ds.map some ++ List.replicate (n - ds.length) none) with
  | .nx ρ => .rt .non (ioOf kio ρ)
  | .rt d ρ => .rt d (ioOf kio ρ)
  | .ex e ρ => .ex e (ioOf kio ρ)
  | _ => .st
section
variable {K : PySem.W.Frag} {cA : Str → Addr}
theorem relL_nones {H : Hp} {Z : ZS} : ∀ n : Nat, RelL K cA H Z (List.replicate n none) (List.replicate n none) []
  | 0 => ⟨rfl, rfl⟩
  | n + 1 => ⟨none, _, rfl, relL_nones n⟩
theorem relL_start {H : Hp} {Z : ZS} {n : Nat} : ∀ {ds : List D} {vs : List V} {L : FP}, RepL K cA H Z ds vs L → RelL K cA H Z (ds.map some ++ List.replicate n none) (vs.map some ++ List.replicate n none) L
  | [], vs, L, h => by
    rw [h.1, h.2]
    exact relL_nones n
  | d :: ds, vs, L, h => by
    obtain ⟨v, vs', f1, f2, ev, h1, h2, ef⟩ := h
    subst ev
    exact ⟨v, _, f1, f2, rfl, h1, relL_start h2, ef⟩
theorem io_end {H : Hp} {Z : ZS} {kio : Option Nat} {ρ : Env} {σ0 σ : L2.St} {L : FP} {vs : List V} {n : Nat} (r : RelL K cA H Z ρ σ L) (pn : Pin kio (vs.map some ++ List.replicate n none) σ) : ∃ g, g.Sublist L ∧ RepIo K cA H Z kio (ioOf kio ρ) vs g := by
  cases kio with
  | none => exact ⟨[], List.nil_sublist _, rfl⟩
  | some k =>
    unfold ioOf
    dsimp only
    cases hk : ρ[k]? with
    | none => exact ⟨[], List.nil_sublist _, rfl⟩
    | some o =>
      cases o with
      | none => exact ⟨[], List.nil_sublist _, rfl⟩
      | some d =>
        obtain ⟨v, f0, f1, f2, hv, hr, ef, _, _⟩ := relL_at r hk
        have hp := pn k rfl
        rw [hv] at hp
        refine ⟨f1, ?_, v, ?_, hr⟩
        · rw [ef]
          exact (List.sublist_append_right f0 f1).trans (List.sublist_append_left _ _)
        · by_cases hl : k < vs.length
          · rw [List.getElem?_append_left (by simpa using hl), List.getElem?_map] at hp
            cases hq : vs[k]? with
            | none => rw [hq] at hp; cases hp
            | some u => rw [hq] at hp; cases hp; rfl
          · rw [List.getElem?_append_right (by simpa using hl), List.getElem?_replicate] at hp
            split at hp <;> cases hp
theorem wf_sub2 {H : Hp} {Z : ZS} {fp L g : FP} (w : Wf H Z (fp ++ L)) (h : g.Sublist L) : Wf H Z (fp ++ g) := w.less ((List.Sublist.refl fp).append h)
theorem fr_sub2 {H H' : Hp} {Z Z' : ZS} {L0 fp L g : FP} (f : Fr H Z L0 H' Z' (fp ++ L)) (h : g.Sublist L) : Fr H Z L0 H' Z' (fp ++ g) := f.less fun x m => by
  rcases List.mem_append.mp m with m | m
  · simp [m]
  · simp [h.subset m]
end
section
variable {P : Program} {w : World} {K : PySem.W.Frag} {cA : Str → Addr} {mg : Str → Option Value} {base : Heap}
end
def dCall (n : Nat) (F : List D → FR) (g : Env → Out (List Ag)) : Env → Out D := fun ρ => match g ρ with
  | .ok ds ρ1 => (match agL ds with
    | some xs => if xs.length = n then (match F (frzL xs) with
      | .rt d _ => .ok d ρ1
      | .ex e _ => .ex e ρ1
      | .st => .st) else .st
    | none => .st)
  | .ex e ρ1 => .ex e ρ1
  | .st => .st
def agL1 : List Ag → Option (List D × Nat × List D)
  | [] => none
  | .d x :: xs => (agL1 xs).map fun p => (x :: p.1, p.2)
  | .s i :: xs => (agL xs).map fun p => ([], i, p)
def dCallL (n : Nat) (kio : Option Nat) (F : List D → FR) (g : Env → Out (List Ag)) : Env → Out D := fun ρ => match g ρ with
  | .ok ds ρ1 => (match agL1 ds with
    | some (xs, i, ys) => (match ρ1[i]? with
      | some (some d0) => if kio = some xs.length ∧ xs.length + (ys.length + 1) = n then (match F (frzL xs ++ (d0 :: frzL ys)) with
        | .rt d (some d1) => .ok d (ρ1.set i (some d1))
        | .ex e (some d1) => .ex e (ρ1.set i (some d1))
        | _ => .st) else .st
      | _ => .st)
    | none => .st)
  | .ex e ρ1 => .ex e ρ1
  | .st => .st
def dCall0 (F : List D → FR) : Env → Out D := fun ρ => match F [] with
  | .rt d _ => .ok d ρ
  | .ex e _ => .ex e ρ
  | .st => .st
section
variable {X : Cx} {cA : Str → Addr} {W : WX} {g : Env → Out (List Ag)}
theorem call_in {K : PySem.W.Frag} {n : Nat} {kio : Option Nat} {F : List D → FR} {σ : L2.St} {H H1 : Hp} {Z Z1 : ZS} {L L1 f1 : FP} {ρ1 : Env} {xs : List D} {vs : List V} {Q : VK} (hn : xs.length = n)
    (r1 : RelL K cA H1 Z1 ρ1 σ L1) (w1 : Wf H1 Z1 (f1 ++ L1)) (hL : RepL K cA H1 Z1 xs vs f1) (F1 : Fr H Z L H1 Z1 (f1 ++ L1))
    (p : PostE K cA W σ H Z L Q (match F (frzL xs) with | .rt d _ => .ok d ρ1 | .ex e _ => .ex e ρ1 | .st => .st)) : spF K cA n kio F vs H1 Q (WE W σ) := by
  have wz := w1.freeze (repL_trk xs hL)
  have hf := repL_zu hL
  refine ⟨by rw [repL_len hL]; exact hn, frzL xs, ZU Z1 f1, [], hf, wf0 wz, ?_⟩
  have F1z := F1.freeze
  cases hF : F (frzL xs) with
  | st => rw [hF] at p; exact p
  | rt d io =>
    rw [hF] at p
    intro v H2 Z2 fp g' ri h2 w2 F2
    have F2' : Fr H1 (ZU Z1 f1) [] H2 Z2 fp := F2.less fun x m => by simp [m]
    obtain ⟨r3, w3, F3⟩ := hand0 wz (relL_zu r1) F2' (w2.less (List.sublist_append_left _ _))
    exact p v H2 Z2 L1 fp r3 w3 h2 (F1z.trans F3)
  | ex e io =>
    rw [hF] at p
    intro cls d H2 Z2 g' ri w2 x2 F2
    have F2' : Fr H1 (ZU Z1 f1) [] H2 Z2 [] := F2.less fun x m => nomatch m
    obtain ⟨r3, w3, F3⟩ := hand0 wz (relL_zu r1) F2' (wf0 w2)
    exact p cls d H2 Z2 L1 r3 w3 x2 (F1z.trans F3)
theorem te_call {K : PySem.W.Frag} {n : Nat} {kio : Option Nat} {F : List D → FR} : ∀ σ H Q, TEof K cA W (dCall n F g) σ H Q → tCallS (spF K cA n kio F) (WE W) (TAof K cA W g) σ H Q := by
  rintro σ H Q ⟨Z, L, ρ, r, w, p⟩
  refine ⟨Z, L, ρ, r, w, ?_⟩
  unfold dCall at p
  cases ha : g ρ with
  | st => rw [ha] at p; exact p
  | ex e ρ' => rw [ha] at p; exact p
  | ok ds ρ1 =>
    rw [ha] at p
    intro vs H1 Z1 L1 f1 r1 w1 h1 F1
    dsimp only at p
    split at p
    · rename_i xs hx
      split at p
      · rename_i hn
        exact call_in hn r1 w1 (repA_L hx h1) F1 p
      · exact p.elim
    · exact p.elim
theorem te_callL {K : PySem.W.Frag} {n : Nat} {kio : Option Nat} {F : List D → FR} : ∀ σ H Q, TEof K cA W (dCallL n kio F g) σ H Q → tCallS (spF K cA n kio F) (WE W) (TAof K cA W g) σ H Q := by
  rintro σ H Q ⟨Z, L, ρ, r, w, p⟩
  refine ⟨Z, L, ρ, r, w, ?_⟩
  unfold dCallL at p
  cases ha : g ρ with
  | st => rw [ha] at p; exact p
  | ex e ρ' => rw [ha] at p; exact p
  | ok ds ρ1 =>
    rw [ha] at p
    intro vs H1 Z1 L1 f1 r1 w1 h1 F1
    dsimp only at p
    split at p
    · rename_i xs i ys hx
      split at p
      · rename_i d0 hd0
        split at p
        · rename_i hk
          obtain ⟨hk, hn⟩ := hk
          -- the arguments apart
          have key : ∀ {ds : List Ag} {xs ys : List D} {vs : List V} {fp : FP}, agL1 ds = some (xs, i, ys) → RepA K cA H1 Z1 σ ds vs fp → ∃ us v ws g1 g2, vs = us ++ v :: ws ∧ RepL K cA H1 Z1 xs us g1 ∧ RepL K cA H1 Z1 ys ws g2 ∧ σ[i]? = some (some v) ∧ fp = g1 ++ g2 := by
            intro ds
            induction ds with
            | nil => intro xs ys vs fp e; simp [agL1] at e
            | cons a ds ih =>
              intro xs ys vs fp e h
              cases a with
              | d x =>
                obtain ⟨v, vs', f1, f2, ev, h1, h2, ef⟩ := h
                unfold agL1 at e
                cases hd : agL1 ds with
                | none => rw [hd] at e; cases e
                | some q =>
                  obtain ⟨q1, q2, q3⟩ := q
                  rw [hd] at e
                  cases e
                  obtain ⟨us, v', ws, g1, g2, e1, r1, r2, hv, e2⟩ := ih hd h2
                  exact ⟨v :: us, v', ws, f1 ++ g1, g2, by rw [ev, e1]; rfl, ⟨v, us, f1, g1, rfl, h1, r1, rfl⟩, r2, hv, by rw [ef, e2]; simp⟩
              | s j =>
                obtain ⟨v, vs', ev, hv, h2⟩ := h
                unfold agL1 at e
                cases hd : agL ds with
                | none => rw [hd] at e; cases e
                | some q =>
                  rw [hd] at e
                  cases e
                  exact ⟨[], v, vs', [], fp, by rw [ev]; rfl, ⟨rfl, rfl⟩, repA_L hd h2, hv, rfl⟩
          obtain ⟨us, v, ws, g1, g2, ev, hx1, hx2, hv, ef⟩ := key hx h1
          subst ev ef
          have tr : ∀ a ∈ g1 ++ g2, ∃ o, H1 a = some o := fun a m => (List.mem_append.mp m).elim (repL_trk _ hx1 a) (repL_trk _ hx2 a)
          have wz := w1.freeze tr
          have r1z : RelL K cA H1 (ZU Z1 (g1 ++ g2)) ρ1 σ L1 := relL_zu r1
          obtain ⟨v', f0, fd, f2, hv', hr, eL, put, cut⟩ := relL_at r1z hd0
          rw [hv] at hv'
          cases hv'
          have m1 : RepL K cA H1 (ZU Z1 (g1 ++ g2)) (frzL xs) us [] := repL_frz xs zu_sub (fun a m => .inr (by simp [m])) hx1
          have m2 : RepL K cA H1 (ZU Z1 (g1 ++ g2)) (frzL ys) ws [] := repL_frz ys zu_sub (fun a m => .inr (by simp [m])) hx2
          have hall : RepL K cA H1 (ZU Z1 (g1 ++ g2)) (frzL xs ++ (d0 :: frzL ys)) (us ++ v :: ws) fd := by
            have := repL_append m1 (ys := d0 :: frzL ys) (ws := v :: ws) (g := fd) ⟨v, ws, fd, [], rfl, hr, m2, by simp⟩
            simpa using this
          have lu : us.length = xs.length := repL_len hx1
          have lw : ws.length = ys.length := repL_len hx2
          -- the lent footprint is handed over, the rest waits
          have wzp : Wf H1 (ZU Z1 (g1 ++ g2)) ((f0 ++ f2) ++ fd) := by
            rw [eL] at wz
            refine wz.perm ?_
            rw [List.append_assoc, List.append_assoc]
            exact List.Perm.append_left _ List.perm_append_comm
          have cut1 := cut (H' := H1) (Z' := ZU Z1 (g1 ++ g2)) (fun _ z => z) (fun _ _ _ e => e)
          refine ⟨by simp [lu, lw]; omega, _, _, fd, hall, wzp.less (List.sublist_append_right _ _), ?_⟩
          have F1z : Fr H Z L H1 (ZU Z1 (g1 ++ g2)) L1 := F1.freeze
          have subL : ∀ x ∈ (f0 ++ f2) ++ fd, x ∈ L1 := fun x m => by rw [eL]; simp at m ⊢; rcases m with m | m | m <;> simp [m]
          have back : ∀ {H2 Z2 d1 M fp0} {g' : FP}, RepIo K cA H2 Z2 kio (some d1) (us ++ v :: ws) g' → Wf H2 Z2 (fp0 ++ g') → Fr H1 (ZU Z1 (g1 ++ g2)) fd H2 Z2 (fp0 ++ g') → M = f0 ++ g' ++ f2 →
              RelL K cA H2 Z2 (ρ1.set i (some d1)) σ M ∧ Wf H2 Z2 (fp0 ++ M) ∧ Fr H Z L H2 Z2 (fp0 ++ M) := by
            intro H2 Z2 d1 M fp0 g' ri w2 F2 eM
            subst eM hk
            obtain ⟨v2, hv2, hd1⟩ := ri
            rw [List.getElem?_append_right (by omega), lu, Nat.sub_self] at hv2
            cases hv2
            have w3 := wzp.wait (relL_trk cut1) (relL_nt cut1) F2 w2
            have F3 := ((F1z.less subL).wait wzp F2)
            have nd := List.nodup_append.mp wzp.nd
            have hset : σ.set i (some v) = σ := by
              apply List.ext_getElem?
              intro j
              by_cases hj : i = j
              · subst hj
                rw [hv]
                have hl : i < σ.length := (List.getElem?_eq_some_iff.mp hv).1
                rw [List.getElem?_set_self hl]
              · rw [List.getElem?_set_ne hj]
            have pr := put (H' := H2) (Z' := Z2) (d' := d1) (v' := v) (g := g') F2.zm (fun a o m e => F2.keep a o e fun q => by
              rcases m with m | m | m
              · exact (wzp.dj a (by simp [q])) m
              · exact nd.2.2 a (by simp [m]) a q rfl
              · exact nd.2.2 a (by simp [m]) a q rfl) hd1
            rw [hset] at pr
            have pm : ((f0 ++ f2) ++ (fp0 ++ g')).Perm (fp0 ++ (f0 ++ g' ++ f2)) := by
              refine (List.perm_append_comm_assoc (f0 ++ f2) fp0 g').trans (List.Perm.append_left fp0 ?_)
              rw [List.append_assoc, List.append_assoc]
              exact List.Perm.append_left f0 List.perm_append_comm
            exact ⟨pr, w3.perm pm, F3.less fun x m => pm.mem_iff.mpr m⟩
          cases hF : F (frzL xs ++ (d0 :: frzL ys)) with
          | st => rw [hF] at p; exact p.elim
          | rt d io =>
            rw [hF] at p
            cases io with
            | none => exact p.elim
            | some d1 =>
              intro v2 H2 Z2 fp g' ri h2 w2 F2
              obtain ⟨b1, b2, b3⟩ := back ri w2 F2 rfl
              exact p v2 H2 Z2 _ fp b1 b2 h2 b3
          | ex e io =>
            rw [hF] at p
            cases io with
            | none => exact p.elim
            | some d1 =>
              intro cls d H2 Z2 g' ri w2 x2 F2
              obtain ⟨b1, b2, b3⟩ := back (fp0 := []) ri w2 F2 rfl
              exact p cls d H2 Z2 _ b1 b2 x2 b3
        · exact p.elim
      · exact p.elim
    · exact p.elim
section
variable {k n : Nat} {kio : Option Nat} {f : Addr} {fd : FuncData} {ps : List Str} {F : List D → FR} {x : Str} {p pos : Pos} {e : Expr} {es : List Expr}
theorem de_call (Fo : FnOk X.prog X.w X.K X.mg X.base (L2.CX X.prog X.w) k f fd ps (spF X.K cA n kio F)) (hr : Room k X.A)
    (hg : Gl X x) (hm : X.mg x = some (.ref f)) (hk : PySem.W.keepIn X.K (.ref f) = true) (hb : Binds X.K fd ps []) (tk : Takes X W) (ha : DA X cA W g (e :: es))
    (hdb : (x == ("__debug__" : Str)) = false := by kernel_rfl) (he : starEach (e :: es) X.env = (false, eval e X.env) :: starEach es X.env := by kernel_rfl) (hpl : (backTo pos (starEach es X.env)).any (·.1) = false := by kernel_rfl) :
    DE X cA W (dCall n F g) (.Call (.Name x p) (e :: es) [] pos) := PE.imp (pe_callS Fo hr hg hm hk hb (passAt tk) ha hdb he hpl) te_call
theorem de_callL (Fo : FnOk X.prog X.w X.K X.mg X.base (L2.CX X.prog X.w) k f fd ps (spF X.K cA n kio F)) (hr : Room k X.A)
    (hg : Gl X x) (hm : X.mg x = some (.ref f)) (hk : PySem.W.keepIn X.K (.ref f) = true) (hb : Binds X.K fd ps []) (tk : Takes X W) (ha : DA X cA W g (e :: es))
    (hdb : (x == ("__debug__" : Str)) = false := by kernel_rfl) (he : starEach (e :: es) X.env = (false, eval e X.env) :: starEach es X.env := by kernel_rfl) (hpl : (backTo pos (starEach es X.env)).any (·.1) = false := by kernel_rfl) :
    DE X cA W (dCallL n kio F g) (.Call (.Name x p) (e :: es) [] pos) := PE.imp (pe_callS Fo hr hg hm hk hb (passAt tk) ha hdb he hpl) te_callL
theorem de_call0 (Fo : FnOk X.prog X.w X.K X.mg X.base (L2.CX X.prog X.w) k f fd ps (spF X.K cA 0 none F)) (hr : Room k X.A)
    (hg : Gl X x) (hm : X.mg x = some (.ref f)) (hk : PySem.W.keepIn X.K (.ref f) = true) (hb : Binds X.K fd ps []) (tk : Takes X W)
    (hdb : (x == ("__debug__" : Str)) = false := by kernel_rfl) : DE X cA W (dCall0 F) (.Call (.Name x p) [] [] pos) := by
  have h0 : PE X (.Call (.Name x p) [] [] pos) (fun σ H Q => spF X.K cA 0 none F [] H Q (WE W σ)) := by
    refine ⟨fun pins s σ H Q I h => ?_⟩
    refine wpAny_Call_Name_kw (ld_glob I hg hm ?_ hdb)
    exact PySem.W.callWith_K0 I.kIn hk (run_fnS (us := []) Fo hr hb (passAt tk σ) I .nil h)
  exact de_of h0 fun σ H Q Z L ρ r w p => call_in (f1 := []) (xs := []) rfl r w ⟨rfl, rfl⟩ Fr.refl p
end
end
end DL
namespace DL
open PySem L2
theorem Pin.refl {k : Option Nat} {σ : L2.St} : Pin k σ σ := fun _ _ => rfl
theorem Pin.trans {k : Option Nat} {σ σ1 σ2 : L2.St} (a : Pin k σ σ1) (b : Pin k σ1 σ2) : Pin k σ σ2 := fun i e => (b i e).trans (a i e)
theorem Pin.set {k : Option Nat} {σ : L2.St} {i : Nat} {v : Option V} (h : k ≠ some i) : Pin k σ (σ.set i v) := fun j e => by
  have : i ≠ j := fun z => h (by rw [z]; exact e)
  rw [List.getElem?_set_ne this]
section
variable {K : PySem.W.Frag} {cA : Str → Addr} {W : WX} {k : Option Nat}
theorem postS_tr {σ σ1 : L2.St} {H H1 : Hp} {Z Z1 : ZS} {L L1 : FP} {T : Ends} {o : Fl} (F : Fr H Z L H1 Z1 L1) (pn : Pin k σ σ1) (p : PostS K cA W k σ H Z L T o) : PostS K cA W k σ1 H1 Z1 L1 T o := by
  cases o with
  | st => exact p
  | nx ρ' => exact fun σ' H' Z' L' r w f q => p σ' H' Z' L' r w (F.trans f) (pn.trans q)
  | bk ρ' => exact fun σ' H' Z' L' r w f q => p σ' H' Z' L' r w (F.trans f) (pn.trans q)
  | ct ρ' => exact fun σ' H' Z' L' r w f q => p σ' H' Z' L' r w (F.trans f) (pn.trans q)
  | rt d ρ' => exact fun v σ' H' Z' L' fp r w h f q => p v σ' H' Z' L' fp r w h (F.trans f) (pn.trans q)
  | ex e ρ' => exact fun cls d σ' H' Z' L' r w x f q => p cls d σ' H' Z' L' r w x (F.trans f) (pn.trans q)
theorem post_es {σ : L2.St} {H : Hp} {Z : ZS} {L : FP} {T : Ends} {e : Exn} {ρ' : Env} (p : PostS K cA W k σ H Z L T (.ex e ρ')) :
    ∀ cls d H' Z' L', RelL K cA H' Z' ρ' σ L' → Wf H' Z' L' → ExR cA H' Z' e cls d → Fr H Z L H' Z' L' → W cls d σ H' := fun cls d H' Z' L' r w x f => p cls d σ H' Z' L' r w x f Pin.refl
end
def dNext : Env → Fl := fun ρ => .nx ρ
@[irreducible] def dSeq (f g : Env → Fl) : Env → Fl := fun ρ => match f ρ with
  | .nx ρ1 => g ρ1
  | o => o
def dBreak : Env → Fl := fun ρ => .bk ρ
def dCont : Env → Fl := fun ρ => .ct ρ
section
variable {X : Cx} {cA : Str → Addr} {W : WX} {k : Option Nat} {f g : Env → Fl} {st : Stmt} {rest : List Stmt} {pos : Pos}
theorem dss_nil : DSs X cA W k dNext [] := dss_of pss_nil fun D σ H Z L ρ r w p => p σ H Z L r w Fr.refl Pin.refl
theorem dss_one (h : DS X cA W k f st) : DSs X cA W k f [st] := pss_one h
theorem dss_cons (h : DS X cA W k f st) (h2 : DSs X cA W k g rest) : DSs X cA W k (dSeq f g) (st :: rest) := dss_of (pss_cons h h2) fun D σ H Z L ρ r w p => by
  refine ⟨Z, L, ρ, r, w, ?_⟩
  unfold dSeq at p
  cases hf : f ρ with
  | nx ρ1 =>
    rw [hf] at p
    exact fun σ1 H1 Z1 L1 r1 w1 F1 q1 => ⟨Z1, L1, ρ1, r1, w1, postS_tr F1 q1 p⟩
  | st => rw [hf] at p; exact p
  | bk ρ1 => rw [hf] at p; exact p
  | ct ρ1 => rw [hf] at p; exact p
  | rt d ρ1 => rw [hf] at p; exact p
  | ex e ρ1 => rw [hf] at p; exact p
end
def dBind (f : Env → Out D) (h : D → Env → Fl) : Env → Fl := fun ρ => match f ρ with
  | .ok d ρ1 => h d ρ1
  | .ex e ρ1 => .ex e ρ1
  | .st => .st
section
variable {X : Cx} {cA : Str → Addr} {W : WX} {k : Option Nat} {f : Env → Out D} {e : Expr} {pos : Pos} {te : TE}
theorem bind_te {K : PySem.W.Frag} {σ : L2.St} {H : Hp} {Z : ZS} {L : FP} {ρ : Env} {T : Ends} {h : D → Env → Fl} {Q : VK} (r : RelL K cA H Z ρ σ L) (w : Wf H Z L) (p : PostS K cA W k σ H Z L T (dBind f h ρ))
    (n : ∀ d ρ1 v H1 Z1 L1 fp, f ρ = .ok d ρ1 → RelL K cA H1 Z1 ρ1 σ L1 → Wf H1 Z1 (fp ++ L1) → RepD K cA H1 Z1 d v fp → Fr H Z L H1 Z1 (fp ++ L1) → PostS K cA W k σ H Z L T (h d ρ1) → Q v H1) : TEof K cA W f σ H Q := by
  refine ⟨Z, L, ρ, r, w, ?_⟩
  unfold dBind at p
  cases hf : f ρ with
  | st => rw [hf] at p; exact p
  | ex e ρ1 => rw [hf] at p; exact post_es p
  | ok d ρ1 =>
    rw [hf] at p
    exact fun v H1 Z1 L1 fp r1 w1 h1 F1 => n d ρ1 v H1 Z1 L1 fp hf r1 w1 h1 F1 p
theorem ds_expr (he : DE X cA W f e) (hs : swapsWith e none pos.line X.env = pure false := by kernel_rfl) : DS X cA W k (dBind f fun _ ρ => .nx ρ) (.Expr e pos) :=
  ds_of (ps_expr he hs) fun D σ H Z L ρ r w p => bind_te r w p fun d ρ1 v H1 Z1 L1 fp hd r1 w1 h1 F1 p => p σ H1 Z1 L1 r1 (w1.less (List.sublist_append_right _ _)) (F1.less fun x m => by simp [m]) Pin.refl
theorem ds_ret (he : DE X cA W f e) : DS X cA W k (dBind f fun d ρ => .rt d ρ) (.Return (some e) pos) :=
  ds_of (ps_ret he) fun D σ H Z L ρ r w p => bind_te r w p fun d ρ1 v H1 Z1 L1 fp hd r1 w1 h1 F1 p => p v σ H1 Z1 L1 fp r1 w1 h1 F1 Pin.refl
def dRetMv (i : Nat) : Env → Fl := fun ρ => match ρ[i]? with
  | some (some d) => .rt d (ρ.set i none)
  | _ => .st
def dIf (t : Env → Out Bool) (f g : Env → Fl) : Env → Fl := fun ρ => match t ρ with
  | .ok true ρ1 => f ρ1
  | .ok false ρ1 => g ρ1
  | .ex e ρ1 => .ex e ρ1
  | .st => .st
theorem ds_if {c : Expr} {a b : List Stmt} {t : Env → Out Bool} {ff gg : Env → Fl} (hc : DT X cA W t c) (ha : DSs X cA W k ff a) (hb : DSs X cA W k gg b) : DS X cA W k (dIf t ff gg) (.If c a b pos) := ds_of (ps_if hc ha hb) fun D σ H Z L ρ r w p => by
  refine ⟨Z, L, ρ, r, w, ?_⟩
  unfold dIf at p
  cases ht : t ρ with
  | st => rw [ht] at p; exact p
  | ex e ρ1 => rw [ht] at p; exact post_es p
  | ok b ρ1 =>
    rw [ht] at p
    intro H1 Z1 L1 r1 w1 F1
    cases b with
    | true => exact ⟨Z1, L1, ρ1, r1, w1, postS_tr F1 Pin.refl p⟩
    | false => exact ⟨Z1, L1, ρ1, r1, w1, postS_tr F1 Pin.refl p⟩
def dNo : Env → Fl := fun _ => .st
def stSet (i : Nat) (d : D) (ρ : Env) : Fl := if i < ρ.length then .nx (ρ.set i (some d)) else .st
theorem put_slot {K : PySem.W.Frag} {σ : L2.St} {H H1 : Hp} {Z Z1 : ZS} {L L1 fp : FP} {T : Ends} {ρ1 : Env} {i : Nat} {d : D} {v : V} (hk : k ≠ some i) (r1 : RelL K cA H1 Z1 ρ1 σ L1) (w1 : Wf H1 Z1 (fp ++ L1)) (h1 : RepD K cA H1 Z1 d v fp)
    (F1 : Fr H Z L H1 Z1 (fp ++ L1)) (p : PostS K cA W k σ H Z L T (stSet i d ρ1)) : T.nx (σ.set i (some v)) H1 := by
  unfold stSet at p
  split at p
  · rename_i hi
    obtain ⟨f0, f2, hs, q⟩ := relL_set r1 hi h1
    have pm : (fp ++ (f0 ++ f2)).Perm (f0 ++ fp ++ f2) := by
      rw [List.append_assoc]
      exact List.perm_append_comm_assoc fp f0 f2
    have w2 := (w1.less ((List.Sublist.refl fp).append hs)).perm pm
    exact p _ H1 Z1 _ q w2 (F1.less fun x m => by
      have := pm.mem_iff.mpr m
      rcases List.mem_append.mp this with z | z
      · simp [z]
      · simp [hs.subset z]) (Pin.set hk)
  · exact p.elim
theorem ds_set {i : Nat} {x : Str} {pos' : Pos} (hN : X.N.Nodup) (hi : X.N[i]? = some x) (hx : Loc X.env.scope x) (he : DE X cA W f e) (hk : k ≠ some i := by decide) (hs : swapsWith e (some (.Name x pos')) pos.line X.env = pure false := by kernel_rfl)
    (hf : X.fn x = true ∨ X.env.scope.names.lookup x = some .local := by first | exact .inl rfl | exact .inr rfl | assumption) : DS X cA W k (dBind f (stSet i)) (.Assign [.Name x pos'] e pos) :=
  ds_of (ps_set hN hi hx he hs hf) fun D σ H Z L ρ r w p => bind_te r w p fun d ρ1 v H1 Z1 L1 fp hd r1 w1 h1 F1 p => put_slot hk r1 w1 h1 F1 p
def But (ts : List Nat) (σ σ' : L2.St) : Prop := σ'.length = σ.length ∧ ∀ j, j ∉ ts → σ'[j]? = σ[j]?
theorem But.pin {ts : List Nat} {σ σ' : L2.St} (b : But ts σ σ') (h : ∀ i, k = some i → i ∉ ts) : Pin k σ σ' := fun i e => b.2 i (h i e)
theorem But.set {σ : L2.St} {i : Nat} {v : Option V} : But [i] σ (σ.set i v) := ⟨List.length_set .., fun j hj => by
  have : i ≠ j := fun z => hj (by simp [z])
  rw [List.getElem?_set_ne this]⟩
def TGof (K : PySem.W.Frag) (cA : Str → Addr) (ts : List Nat) (g : D → Env → Option Env) : TG := fun v σ H Q => ∃ d Z L ρ ρ', RelL K cA H Z ρ σ L ∧ Wf H Z L ∧ RepD K cA H Z d v [] ∧ g d ρ = some ρ' ∧
  ∀ σ' H' Z' L', RelL K cA H' Z' ρ' σ' L' → Wf H' Z' L' → Fr H Z L H' Z' L' → But ts σ σ' → Q σ' H'
def DG (X : Cx) (cA : Str → Addr) (ts : List Nat) (g : D → Env → Option Env) (tg : Expr) : Prop := PG X tg (TGof X.K cA ts g)
def tg1 (i : Nat) (d : D) (ρ : Env) : Option Env := if i < ρ.length then some (ρ.set i (some d)) else none
def tgL : List Nat → List D → Env → Option Env
  | [], [], ρ => some ρ
  | i :: is, d :: ds, ρ => if i < ρ.length then tgL is ds (ρ.set i (some d)) else none
  | _, _, _ => none
def tgT (is : List Nat) (d : D) (ρ : Env) : Option Env := match d with
  | .n .tup _ xs => tgL is xs ρ
  | _ => none
theorem PG.imp {tg : Expr} {t t' : TG} (h : PG X tg t) (i : ∀ v σ H Q, t' v σ H Q → t v σ H Q) : PG X tg t' := ⟨fun pins s σ H v u Q I r w => h.run pins s σ H v u Q I r (i v σ H Q w)⟩
theorem dg_name {i : Nat} {x : Str} (hN : X.N.Nodup) (hi : X.N[i]? = some x) (hx : Loc X.env.scope x) (hf : X.fn x = true ∨ X.env.scope.names.lookup x = some .local := by first | exact .inl rfl | exact .inr rfl | assumption) : DG X cA [i] (tg1 i) (.Name x pos) :=
  PG.imp (pg_name hN hi hx hf) fun v σ H Q ⟨d, Z, L, ρ, ρ', r, w, h, e, q⟩ => by
    unfold tg1 at e
    split at e
    · rename_i hl
      cases e
      obtain ⟨f0, f2, hs, q'⟩ := relL_set r hl h
      exact q _ H Z _ q' (w.less (by simpa using hs)) (Fr.refl.less fun x m => hs.subset (by simpa using m)) But.set
    · cases e
theorem tgL_len : ∀ {is : List Nat} {xs : List D} {ρ ρ' : Env}, tgL is xs ρ = some ρ' → xs.length = is.length
  | [], [], _, _, _ => rfl
  | [], a :: b, _, _, e => by simp [tgL] at e
  | i :: is, [], _, _, e => by simp [tgL] at e
  | i :: is, a :: b, ρ, ρ', e => by
    unfold tgL at e
    split at e
    · rw [List.length_cons, List.length_cons, tgL_len e]
    · cases e
theorem dFz_isF {f : Env → Out D} {ρ ρ1 : Env} {d : D} (h : dFz f ρ = .ok d ρ1) : isF d = true := by
  unfold dFz at h
  split at h
  · cases h
    exact isF_frz _
  · cases h
  · cases h
inductive DGs (X : Cx) : List Nat → List Expr → Prop where
  | nil : DGs X [] []
  | cons {i : Nat} {x : Str} {pos : Pos} {is : List Nat} {es : List Expr} (h : PG X (.Name x pos) (gName i)) (t : DGs X is es)
      (hs : (assignEach (.Name x pos :: es) X.env).map (·.2) = assign (.Name x pos) X.env :: (assignEach es X.env).map (·.2)) : DGs X (i :: is) (.Name x pos :: es)
def gNames : List Nat → TGs
  | [] => gNil
  | i :: is => gCons (gName i) (gNames is)
theorem DGs.pgs : ∀ {is : List Nat} {es : List Expr}, DGs X is es → PGs X es (gNames is)
  | _, _, .nil => pgs_nil
  | _, _, .cons h t hs => pgs_cons h t.pgs hs
theorem names_ok {K : PySem.W.Frag} {Q : L2.St → Hp → Prop} {H : Hp} {Z : ZS} : ∀ {is : List Nat} {ds : List D} {vs : List V} {ρ ρ' : Env} {σ : L2.St} {L : FP}, RelL K cA H Z ρ σ L → Wf H Z L → RepL K cA H Z ds vs [] → tgL is ds ρ = some ρ' →
    (∀ σ' L', RelL K cA H Z ρ' σ' L' → Wf H Z L' → Fr H Z L H Z L' → But is σ σ' → Q σ' H) → gNames is vs σ H Q
  | [], [], vs, ρ, ρ', σ, L, r, w, h, e, q => by
    cases e
    exact ⟨h.1, q σ L r w Fr.refl ⟨rfl, fun _ _ => rfl⟩⟩
  | [], d :: ds, vs, ρ, ρ', σ, L, r, w, h, e, q => by simp [tgL] at e
  | i :: is, [], vs, ρ, ρ', σ, L, r, w, h, e, q => by simp [tgL] at e
  | i :: is, d :: ds, vs, ρ, ρ', σ, L, r, w, h, e, q => by
    obtain ⟨v, vs', f1, f2, ev, h1, h2, ef⟩ := h
    have e2 := List.append_eq_nil_iff.mp ef.symm
    rw [e2.1] at h1
    rw [e2.2] at h2
    unfold tgL at e
    split at e
    · rename_i hl
      obtain ⟨f0, f3, hs, r'⟩ := relL_set r hl h1
      refine ⟨v, vs', ev, ?_⟩
      refine names_ok r' (w.less (by simpa using hs)) h2 e fun σ' L' r2 w2 F2 b2 => ?_
      refine q σ' L' r2 w2 ((Fr.refl.less fun x m => hs.subset (by simpa using m)).trans F2) ⟨by rw [b2.1, List.length_set], fun j hj => ?_⟩
      have hij : i ≠ j := fun z => hj (by simp [z])
      rw [b2.2 j fun m => hj (by simp [m]), List.getElem?_set_ne hij]
    · cases e
theorem dg_tup {is : List Nat} {es : List Expr} {x1 : Nat} {n : Nat} (hc : X.calm = true) (h : DGs X is es) (hl : is.length = n) (hn : (assignEach es X.env).length = n := by kernel_rfl) (hst : (assignEach es X.env).findIdx? (·.1) = none := by kernel_rfl) :
    DG X cA is (tgT is) (.Tuple es x1 pos) := PG.imp (pg_tup hc h.pgs hn hst) fun v σ H Q ⟨d, Z, L, ρ, ρ', r, w, hd, e, q⟩ => by
  unfold tgT at e
  split at e
  · rename_i o xs
    obtain ⟨p, vs, rfl, e1, r1, _⟩ := rep_tup hd
    have len : vs.length = n := by
      rw [repL_len r1, ← hl]
      exact tgL_len e
    exact ⟨p, vs, rfl, e1, len, names_ok r w r1 e fun σ' L' r2 w2 F2 b2 => q σ' H Z L' r2 w2 F2 b2⟩
  · cases e
def stTg (g : D → Env → Option Env) (d : D) (ρ : Env) : Fl := match g d ρ with
  | some ρ' => .nx ρ'
  | none => .st
theorem ds_asg {tg : Expr} {ts : List Nat} {g : D → Env → Option Env} (hg : DG X cA ts g tg) (he : DE X cA W (dFz f) e) (hk : ∀ i, k = some i → i ∉ ts) (hs : swapsWithSole [tg] e pos.line X.env = pure false := by kernel_rfl) (hw : swappedStores [tg] e X.env = pure none := by kernel_rfl)
    (h1 : (assignEach [tg] X.env).map (·.2) = [assign tg X.env] := by kernel_rfl) : DS X cA W k (dBind (dFz f) (stTg g)) (.Assign [tg] e pos) :=
  ds_of (ps_asg he hg hs hw h1) fun T σ H Z L ρ r w p => bind_te r w p fun d ρ1 v H1 Z1 L1 fp hd r1 w1 h1 F1 p => by
    unfold stTg at p
    split at p
    · rename_i ρ' hg'
      have ef := repD_isF d h1 (dFz_isF hd)
      subst ef
      exact ⟨d, Z1, L1, ρ1, ρ', r1, w1, h1, hg', fun σ' H' Z' L' r' w' F' b => p σ' H' Z' L' r' w' (F1.trans F') (b.pin hk)⟩
    · exact p.elim
def dPar (i j : Nat) (g : Env → Out (List Ag)) : Env → Fl := fun ρ => match g ρ with
  | .ok [.d a, .d b] ρ1 => if i < ρ1.length ∧ j < ρ1.length then .nx ((ρ1.set i (some a)).set j (some b)) else .st
  | .ok _ _ => .st
  | .ex e ρ1 => .ex e ρ1
  | .st => .st
def dAug (i : Nat) (h : Int → Int → Int) (f : Env → Out D) : Env → Fl := fun ρ => match ρ[i]? with
  | some (some (.a (.int a))) => (match f ρ with
    | .ok (.a (.int b)) ρ1 => stSet i (.int (h a b)) ρ1
    | .ok _ _ => .st
    | .ex e ρ1 => .ex e ρ1
    | .st => .st)
  | _ => .st
end
end DL
namespace DL
open PySem L2
section
variable {K : PySem.W.Frag} {cA : Str → Addr} {H : Hp} {Z : ZS}
theorem set_same {σ : L2.St} {i : Nat} {v : V} (h : σ[i]? = some (some v)) : σ.set i (some v) = σ := by
  apply List.ext_getElem?
  intro j
  by_cases hj : i = j
  · subst hj
    rw [h, List.getElem?_set_self (List.getElem?_eq_some_iff.mp h).1]
  · rw [List.getElem?_set_ne hj]
theorem own_write {ρ : Env} {σ : L2.St} {L hd : FP} {i : Nat} {p : Addr} {ys : List D} {vs ws : List V} {f0 g f2 g2 : FP} {Z0 : ZS} {H0 : Hp} {L0 : FP}
    (w : Wf H Z (hd ++ L)) (r : RelL K cA H Z ρ σ L) (hp : H p = some (.lst vs)) (eL : L = f0 ++ (p :: g) ++ f2) (hσ : σ[i]? = some (some (.ref p)))
    (put : ∀ {H' : Hp} {Z' : ZS} {d' : D} {v' : V} {g' : FP}, (∀ a, Z a → Z' a) → (∀ a o, (Z a ∨ a ∈ f0 ∨ a ∈ f2) → H a = some o → H' a = some o) → RepD K cA H' Z' d' v' g' → RelL K cA H' Z' (ρ.set i (some d')) (σ.set i (some v')) (f0 ++ g' ++ f2))
    (ry : RepL K cA H Z ys ws g2) (sub : ∀ a ∈ g2, a ∈ g ∨ a ∈ hd) (nd2 : g2.Nodup) (F : Fr H0 Z0 L0 H Z (hd ++ L)) :
    RelL K cA (upd H p (.lst ws)) Z (ρ.set i (some (.lst true ys))) σ (f0 ++ (p :: g2) ++ f2) ∧ Wf (upd H p (.lst ws)) Z (f0 ++ (p :: g2) ++ f2) ∧ Fr H0 Z0 L0 (upd H p (.lst ws)) Z (f0 ++ (p :: g2) ++ f2) := by
  subst eL
  have nd := List.nodup_append.mp w.nd
  have ndL := List.nodup_append.mp nd.2.1
  have ndL1 := List.nodup_append.mp ndL.1
  have ndp := List.nodup_cons.mp ndL1.2.1
  have pz : ¬ Z p := w.dj p (by simp)
  have pf0 : p ∉ f0 := fun m => ndL1.2.2 p m p (by simp) rfl
  have pf2 : p ∉ f2 := fun m => ndL.2.2 p (by simp) p m rfl
  have phd : p ∉ hd := fun m => nd.2.2 p m p (by simp) rfl
  have pg2 : p ∉ g2 := fun m => (sub p m).elim ndp.1 phd
  have kn : ∀ a o, a ≠ p → H a = some o → upd H p (.lst ws) a = some o := fun a o n e => by rw [upd_ne n]; exact e
  have rep' : RepD K cA (upd H p (.lst ws)) Z (.lst true ys) (.ref p) (p :: g2) := ⟨p, ws, g2, rfl, repL_mono ys (fun _ z => z) (fun a o m e => kn a o (fun q => by
    subst q
    exact m.elim pz pg2) e) ry, ⟨upd_same, fun q => nomatch q⟩, rfl, fun q => nomatch q⟩
  have q := put (H' := upd H p (.lst ws)) (Z' := Z) (fun _ z => z) (fun a o m e => kn a o (fun q => by
    subst q
    rcases m with m | m | m
    · exact pz m
    · exact pf0 m
    · exact pf2 m) e) rep'
  rw [set_same hσ] at q
  have inall : ∀ a ∈ f0 ++ (p :: g2) ++ f2, a ∈ hd ++ (f0 ++ (p :: g) ++ f2) := fun a m => by
    simp only [List.mem_append, List.mem_cons] at m ⊢
    rcases m with (m | m | m) | m
    · simp [m]
    · simp [m]
    · rcases sub a m with z | z <;> simp [z]
    · simp [m]
  refine ⟨q, ⟨?_, fun a m => w.dj a (inall a m), fun a z => ?_⟩, ⟨fun a o e n => ?_, F.zm, F.zs, fun a m => F.ls a (inall a m)⟩⟩
  · refine List.nodup_append.mpr ⟨List.nodup_append.mpr ⟨ndL1.1, List.nodup_cons.mpr ⟨pg2, nd2⟩, fun a ha b hb e => ?_⟩, ndL.2.1, fun a ha b hb e => ?_⟩
    · subst e
      rcases List.mem_cons.mp hb with rfl | hb
      · exact pf0 ha
      · rcases sub a hb with z | z
        · exact ndL1.2.2 a ha a (by simp [z]) rfl
        · exact nd.2.2 a z a (by simp [ha]) rfl
    · subst e
      rcases List.mem_append.mp ha with ha | ha
      · exact ndL.2.2 a (by simp [ha]) a hb rfl
      · rcases List.mem_cons.mp ha with rfl | ha
        · exact pf2 hb
        · rcases sub a ha with z | z
          · exact ndL.2.2 a (by simp [z]) a hb rfl
          · exact nd.2.2 a z a (by simp [hb]) rfl
  · obtain ⟨o, e⟩ := w.tz a z
    by_cases h : a = p
    · subst h; exact absurd z pz
    · exact ⟨o, kn a o h e⟩
  · have h1 := F.keep a o e n
    by_cases h : a = p
    · subst h
      rcases F.ls a (by simp) with z | z
      · exact absurd z n
      · rw [z] at e; cases e
    · exact kn a o h h1
theorem relL_own {ρ : Env} {σ : L2.St} {L : FP} {i : Nat} {xs : List D} (r : RelL K cA H Z ρ σ L) (h : ρ[i]? = some (some (.lst true xs))) : ∃ p vs g f0 f2, σ[i]? = some (some (.ref p)) ∧ H p = some (.lst vs) ∧ RepL K cA H Z xs vs g ∧ L = f0 ++ (p :: g) ++ f2 ∧
    (∀ {H' : Hp} {Z' : ZS} {d' : D} {v' : V} {g' : FP}, (∀ a, Z a → Z' a) → (∀ a o, (Z a ∨ a ∈ f0 ∨ a ∈ f2) → H a = some o → H' a = some o) → RepD K cA H' Z' d' v' g' → RelL K cA H' Z' (ρ.set i (some d')) (σ.set i (some v')) (f0 ++ g' ++ f2)) := by
  obtain ⟨v, f0, f1, f2, hv, hr, ef, put, _⟩ := relL_at r h
  obtain ⟨p, vs, g, rfl, e1, r1, e2, _⟩ := rep_lst hr
  rw [if_pos rfl] at e2
  subst e2
  exact ⟨p, vs, g, f0, f2, hv, e1, r1, ef, put⟩
theorem repL_set' {xs : List D} {vs : List V} {g : FP} (h : RepL K cA H Z xs vs g) : ∀ {j : Nat} {d : D} {v : V} {f : FP}, j < xs.length → RepD K cA H Z d v f → ∃ g0 g2, (g0 ++ g2).Sublist g ∧ RepL K cA H Z (xs.set j d) (vs.set j v) (g0 ++ f ++ g2) := by
  induction xs generalizing vs g with
  | nil => intro j d v f hj; simp at hj
  | cons x xs ih =>
    intro j d v f hj hd
    obtain ⟨u, vs', f1, f2, ev, h1, h2, ef⟩ := h
    subst ev ef
    cases j with
    | zero => exact ⟨[], f2, by simp, v, vs', f, f2, rfl, hd, h2, by simp⟩
    | succ j =>
      obtain ⟨g0, g2, hs, q⟩ := ih h2 (by simpa using hj) hd
      refine ⟨f1 ++ g0, g2, by rw [List.append_assoc]; exact (List.Sublist.refl f1).append hs, u, vs'.set j v, f1, g0 ++ f ++ g2, rfl, h1, q, by simp⟩
end
def stApp (i : Nat) (d : D) (ρ : Env) : Fl := match ρ[i]? with
  | some (some (.n .lst true xs)) => if xs.length < cap then .nx (ρ.set i (some (.lst true (xs ++ [d])))) else .st
  | _ => .st
def stExt (i : Nat) (d : D) (ρ : Env) : Fl := match ρ[i]? with
  | some (some (.n .lst true xs)) => (match d with
    | .n .lst _ ys => if xs.length + ys.length ≤ cap ∧ isFL ys = true then .nx (ρ.set i (some (.lst true (xs ++ ys)))) else .st
    | _ => .st)
  | _ => .st
def dHas (i : Nat) (f : Env → Fl) : Env → Fl := fun ρ => match ρ[i]? with
  | some (some (.n .lst _ _)) => f ρ
  | _ => .st
section
variable {X : Cx} {cA : Str → Addr} {W : WX} {k : Option Nat} {f : Env → Out D} {e o : Expr} {pos apos cpos : Pos}
theorem ds_append {i : Nat} (ho : PE X o (tVar i)) (he : DE X cA W f e)
    (hbase : attributeBase o "append" X.env (eval o X.env) = eval o X.env := by kernel_rfl)
    (hfew : ((backTo cpos (starEach [e] X.env)).all (fun x => !x.1) && (backToKw cpos (keywordEach [] X.env)).all (fun x => x.1.isSome)
      && decide ([e].length + ([] : List Keyword).length + (if ([] : List Keyword).isEmpty then 0 else 1) < 30)) = true := by kernel_rfl)
    (hline : (apos.endLine == cpos.line) = true := by kernel_rfl) (hs : starEach [e] X.env = (false, eval e X.env) :: starEach [] X.env := by kernel_rfl)
    (hsw : swapsWith (.Call (.Attribute o "append" apos) [e] [] cpos) none pos.line X.env = pure false := by kernel_rfl) : DS X cA W k (dHas i (dBind f (stApp i))) (.Expr (.Call (.Attribute o "append" apos) [e] [] cpos) pos) :=
  ds_of (ps_expr (pe_bm PySem.F.plainAttrs_list PySem.F.slot_list_append PySem.F.type_list_append mt_append ho (pa_cons he pa_nil hs) hbase hfew hline hs rfl) hsw) fun T σ H Z L ρ r w p => by
    unfold dHas at p
    split at p
    · rename_i oo zs hz
      obtain ⟨v, f0, f1, f2, hv, hr, ef, _, _⟩ := relL_at r hz
      obtain ⟨p0, vs0, g0, rfl, e0, _, _, _⟩ := rep_lst hr
      refine ⟨_, hv, .inl ⟨rfl, _, SqL.of e0⟩, bind_te r w p fun d ρ1 u H1 Z1 L1 fp hd r1 w1 h1 F1 p => ?_⟩
      unfold stApp at p
      split at p
      · rename_i xs hx
        split at p
        · rename_i hl
          obtain ⟨q, vs, g, f0, f2, hσ, hp, rx, eL, put⟩ := relL_own r1 hx
          rw [hv] at hσ
          cases hσ
          have len := repL_len rx
          have ra := repL_append rx (repL_one h1)
          have nd := List.nodup_append.mp w1.nd
          show rAppend (.ref p0) [u] H1 (fun x H1 => T.nx σ H1)
          refine ⟨p0, vs, u, rfl, rfl, hp, cap_lt (by omega), ?_⟩
          have nd2 : (g ++ fp).Nodup := by
            rw [eL] at nd
            refine List.nodup_append.mpr ⟨(List.nodup_cons.mp (List.nodup_append.mp (List.nodup_append.mp nd.2.1).1).2.1).2, nd.1, fun a ha b hb e => ?_⟩
            subst e
            exact nd.2.2 a hb a (by simp [ha]) rfl
          obtain ⟨a, b, c⟩ := own_write w1 r1 hp eL hv put ra (fun a m => List.mem_append.mp m) nd2 F1
          exact p σ _ Z1 _ a b c Pin.refl
        · exact p.elim
      · exact p.elim
    · exact p.elim
def stSub (i : Nat) (fj : Env → Out D) (d : D) (ρ : Env) : Fl := match ρ[i]? with
  | some (some (.n .lst true _)) => (match fj ρ with
    | .ok (.a (.int z)) ρ2 => (match ρ2[i]? with
      | some (some (.n .lst true xs)) => (match ixN xs.length z with
        | some j => .nx (ρ2.set i (some (.lst true (xs.set j d))))
        | none => .st)
      | _ => .st)
    | .ok _ _ => .st
    | .ex e ρ2 => .ex e ρ2
    | .st => .st)
  | _ => .st
theorem ixN_lt {n : Nat} {z : Int} {j : Nat} (h : ixN n z = some j) : j < n := by
  obtain ⟨_, h2, _⟩ := ixN_seq h
  exact h2
theorem ds_sub {i : Nat} {ix : Expr} {fj : Env → Out D} {spos : Pos} (he : DE X cA W f e) (ho : PE X o (tVar i)) (hi : DE X cA W fj ix)
    (hs : swapsWithSole [.Subscript o ix spos] e pos.line X.env = pure false := by kernel_rfl) (hw : swappedStores [.Subscript o ix spos] e X.env = pure none := by kernel_rfl)
    (h1 : (assignEach [.Subscript o ix spos] X.env).map (·.2) = [assign (.Subscript o ix spos) X.env] := by kernel_rfl)
    (ha : ∀ v, assign (.Subscript o ix spos) X.env v = (do
      let ov ← holding [v] (eval o X.env)
      let iv ← holding [v, ov] (eval ix X.env)
      standAt spos
      holding [v, ov, iv] (setItem ov iv v)
      release [v, ov, iv] []) := by intro _; kernel_rfl) : DS X cA W k (dBind f (stSub i fj)) (.Assign [.Subscript o ix spos] e pos) :=
  ds_of (ps_asg he (pg_sub ho hi set_list ha) hs hw h1) fun T σ H Z L ρ r w p => bind_te r w p fun d ρ1 v H1 Z1 L1 fp hd r1 w1 h1 F1 p => by
    unfold stSub at p
    split at p
    · rename_i xs0 hx0
      obtain ⟨q, _, _, _, _, hσ, _, _, _, _⟩ := relL_own r1 hx0
      refine ⟨_, hσ, Z1, L1, ρ1, r1, w1.less (List.sublist_append_right _ _), ?_⟩
      cases hj : fj ρ1 with
      | st => rw [hj] at p; exact p
      | ex e ρ2 =>
        rw [hj] at p
        exact exw (post_es p) (F1.less fun x m => by simp [m])
      | ok d2 ρ2 =>
        rw [hj] at p
        intro u H2 Z2 L2 fp2 r2 w2 h2 F2
        have w12 : Wf H2 Z2 (fp ++ (fp2 ++ L2)) := w1.wait (repD_trk d h1) (repD_nt d h1) F2 w2
        have F12 := Fr.wait w1 F1 F2
        have hv2 := repD_wait w1 h1 F2
        cases d2 with
        | n k o xs => exact p.elim
        | a x =>
          cases x with
          | non => exact p.elim
          | bl b => exact p.elim
          | str s => exact p.elim
          | int z =>
            obtain ⟨e1, e2⟩ := h2
            subst e1 e2
            dsimp only at p
            split at p
            · rename_i xs hx
              split at p
              · rename_i j hj2
                obtain ⟨q2, vs, g, f0, f2, hσ2, hp, rx, eL, put⟩ := relL_own r2 hx
                rw [hσ] at hσ2
                cases hσ2
                have len := repL_len rx
                obtain ⟨g0, g2, hsb, rs⟩ := repL_set' rx (ixN_lt hj2) hv2
                refine ⟨q, vs, z, j, rfl, rfl, hp, by rw [len]; exact hj2, ?_⟩
                have nd := List.nodup_append.mp w12.nd
                have ndg : g.Nodup := by
                  have nl : L2.Nodup := by simpa using nd.2.1
                  rw [eL] at nl
                  exact (List.nodup_cons.mp (List.nodup_append.mp (List.nodup_append.mp nl).1).2.1).2
                have nd2 : (g0 ++ fp ++ g2).Nodup := by
                  have pm : (fp ++ (g0 ++ g2)).Perm (g0 ++ fp ++ g2) := by
                    rw [List.append_assoc]; exact List.perm_append_comm_assoc fp g0 g2
                  refine pm.nodup_iff.mp (List.nodup_append.mpr ⟨nd.1, ndg.sublist hsb, fun a ha b hb e => ?_⟩)
                  subst e
                  exact nd.2.2 a ha a (by rw [eL]; simp [hsb.subset hb]) rfl
                obtain ⟨a, b, c⟩ := own_write w12 r2 hp eL hσ put rs (fun a m => by
                  simp only [List.mem_append] at m
                  rcases m with (m | m) | m
                  · exact .inl (hsb.subset (by simp [m]))
                  · exact .inr m
                  · exact .inl (hsb.subset (by simp [m]))) nd2 F12
                exact p σ _ Z2 _ a b c Pin.refl
              · exact p.elim
            · exact p.elim
    · exact p.elim
def stSub2 (i : Nat) (qa qb : Env → Option At) (d : D) (ρ : Env) : Fl := match ρ[i]? with
  | some (some (.n .lst true xs)) => (match qa ρ, qb ρ with
    | some (.int a), some (.int b) => (match ixN xs.length a with
      | some j => (match xs[j]? with
        | some (.n .lst true ys) => (match ixN ys.length b with
          | some l => if isF d = true then .nx (ρ.set i (some (.lst true (xs.set j (.lst true (ys.set l d)))))) else .st
          | none => .st)
        | _ => .st)
      | none => .st)
    | _, _ => .st)
  | _ => .st
end
end DL
namespace DL
open PySem L2
def ItOf (K : PySem.W.Frag) (cA : Str → Addr) (J : It) (ds : List D) (H0 : Hp) (Z0 : ZS) : Prop :=
  ∀ i H Z1, (∀ a, Z0 a → Z1 a) → (∀ a o, Z0 a → H0 a = some o → H a = some o) → Wf H Z1 [] →
    (∀ d, ds[i]? = some d → J.go i H ∧ ∀ x H', J.yld i H x H' → ∃ Z2, Fr H Z1 [] H' Z2 [] ∧ Wf H' Z2 [] ∧ RepD K cA H' Z2 d x []) ∧ (ds.length ≤ i → J.stop i H)
section
variable (K : PySem.W.Frag) (cA : Str → Addr)
def PostI (W : WX) (σ : L2.St) (H : Hp) (Z : ZS) (L : FP) (R : It → Hp → Prop) : Out (List D) → Prop
  | .ok ds ρ' => ∀ J H' Z' L', RelL K cA H' Z' ρ' σ L' → Wf H' Z' L' → Fr H Z L H' Z' L' → ItOf K cA J ds H' Z' → R J H'
  | .ex e ρ' => ∀ cls d H' Z' L', RelL K cA H' Z' ρ' σ L' → Wf H' Z' L' → ExR cA H' Z' e cls d → Fr H Z L H' Z' L' → W cls d σ H'
  | .st => False
def TIof (W : WX) (f : Env → Out (List D)) : TI := fun σ H R => ∃ Z L ρ, RelL K cA H Z ρ σ L ∧ Wf H Z L ∧ PostI K cA W σ H Z L R (f ρ)
end
def DI (X : Cx) (cA : Str → Addr) (W : WX) (f : Env → Out (List D)) (tg iter : Expr) : Prop := PI X tg iter (TIof X.K cA W f)
theorem PI.imp {X : Cx} {tg iter : Expr} {t t' : TI} (h : PI X tg iter t) (i : ∀ σ H R, t' σ H R → t σ H R) : PI X tg iter t' := ⟨fun pins s σ H R I w => h.run pins s σ H R I (i σ H R w)⟩
theorem pi_or {X : Cx} {tg iter : Expr} {t t' : TI} (h : PI X tg iter t) (h' : PI X tg iter t') : PI X tg iter (fun σ H R => t σ H R ∨ t' σ H R) := ⟨fun pins s σ H R I w => by
  rcases w with w | w
  · exact h.run pins s σ H R I w
  · exact h'.run pins s σ H R I w⟩
section
variable {K : PySem.W.Frag} {cA : Str → Addr}
theorem rd_keep {H H' : Hp} {Z : ZS} {p : Addr} {u : HO} (z : Z p) (k : ∀ a o, Z a → H a = some o → H' a = some o) (r : Rd H p u) : Rd H' p u := rd_mono (fun o e => k p o z e) r
theorem it_list {H0 : Hp} {Z0 : ZS} {p : Addr} {vs : List V} {xs : List D} (z : Z0 p) (e : H0 p = some (.lst vs)) (r : RepL K cA H0 Z0 xs vs []) : ItOf K cA (Itl K p) xs H0 Z0 := by
  intro i H Z1 hz hk w
  have e1 := hk p _ z e
  have r1 : RepL K cA H Z1 xs vs [] := repL_mono xs hz (fun a o m e => by
    rcases m with m | m
    · exact hk a o m e
    · cases m) r
  refine ⟨fun d hd => ?_, fun hl => ⟨vs, SqL.of e1, by rw [repL_len r]; exact hl⟩⟩
  obtain ⟨v, f0, f1, f2, hv, hr, ef⟩ := repL_get r1 hd
  have e2 : f1 = [] := by
    have := congrArg List.length ef
    simp at this
    exact List.eq_nil_of_length_eq_zero (by omega)
  subst e2
  refine ⟨⟨vs, v, SqL.of e1, hv⟩, fun x H' y => ?_⟩
  obtain ⟨e3, y⟩ := y
  subst e3
  have := y vs (SqL.of e1)
  rw [hv] at this
  cases this
  exact ⟨Z1, Fr.refl, w, hr⟩
theorem it_tup {H0 : Hp} {Z0 : ZS} {p : Addr} {vs : List V} {xs : List D} (c : TupK K H0 Z0 p vs) (r : RepL K cA H0 Z0 xs vs []) : ItOf K cA (Itt K p) xs H0 Z0 := by
  intro i H Z1 hz hk w
  have e1 : SqT K H p vs := by
    rcases c with ⟨z, ob, q, _⟩ | q
    · exact .inl (rd_keep z hk (.inr ⟨ob, q⟩))
    · exact kt_sq q
  have r1 : RepL K cA H Z1 xs vs [] := repL_mono xs hz (fun a o m e => by
    rcases m with m | m
    · exact hk a o m e
    · cases m) r
  refine ⟨fun d hd => ?_, fun hl => ⟨vs, e1, by rw [repL_len r]; exact hl⟩⟩
  obtain ⟨v, f0, f1, f2, hv, hr, ef⟩ := repL_get r1 hd
  have e2 : f1 = [] := by
    have := congrArg List.length ef
    simp at this
    exact List.eq_nil_of_length_eq_zero (by omega)
  subst e2
  refine ⟨⟨vs, v, e1, hv⟩, fun x H' y => ?_⟩
  obtain ⟨e3, y⟩ := y
  subst e3
  have := y vs e1
  rw [hv] at this
  cases this
  exact ⟨Z1, Fr.refl, w, hr⟩
def intL (lo : Int) (n : Nat) : List D := (List.range n).map fun (i : Nat) => D.int (lo + (i : Int))
theorem intL_len (lo : Int) (n : Nat) : (intL lo n).length = n := by simp [intL]
theorem it_rng {H0 : Hp} {Z0 : ZS} {lo : Int} {n : Nat} : ItOf K cA (Itr lo n) (intL lo n) H0 Z0 := by
  intro i H Z1 hz hk w
  refine ⟨fun d hd => ?_, fun hl => by rw [intL_len] at hl; exact hl⟩
  have hi : i < n := by
    have := (List.getElem?_eq_some_iff.mp hd).1
    rw [intL_len] at this; exact this
  refine ⟨hi, fun x H' y => ?_⟩
  obtain ⟨e1, e2⟩ := y
  subst e1 e2
  have : d = .int (lo + i) := by
    simp [intL, hi] at hd
    exact hd.symm
  subst this
  exact ⟨Z1, Fr.refl, w, rfl, rfl⟩
def intsC (lo c : Int) (n : Nat) : List D := (List.range n).map fun (i : Nat) => D.int (lo + (i : Int) * c)
def signs (s : Str) : List D := s.cps.toList.map fun c => .str ⟨#[c]⟩
theorem it_str {H0 : Hp} {Z0 : ZS} {s : Str} : ItOf K cA (Its s) (signs s) H0 Z0 := by
  intro i H Z1 hz hk w
  refine ⟨fun d hd => ?_, fun hl => by
    have : s.cps.size ≤ i := by simpa [signs] using hl
    exact this⟩
  have hd' : (s.cps.toList[i]?).map (fun c => D.str ⟨#[c]⟩) = some d := by rw [← hd]; simp [signs]
  cases hc : s.cps.toList[i]? with
  | none => rw [hc] at hd'; cases hd'
  | some c =>
    rw [hc] at hd'
    cases hd'
    have hc' : s.cps[i]? = some c := by simpa using hc
    refine ⟨(Array.getElem?_eq_some_iff.mp hc').1, fun x H' y => ?_⟩
    obtain ⟨e1, c', e2, e3⟩ := y
    subst e1
    rw [hc'] at e2
    cases e2
    subst e3
    exact ⟨Z1, Fr.refl, w, rfl, rfl⟩
end
def itemsOf : D → Option (List D)
  | .n .lst _ xs => if xs.length ≤ cap then some xs else none
  | .n .tup _ xs => if xs.length ≤ cap then some xs else none
  | .a (.str s) => if s.length ≤ cap then some (signs s) else none
  | _ => none
def dIter (f : Env → Out D) : Env → Out (List D) := fun ρ => match f ρ with
  | .ok d ρ1 => (match itemsOf d with
    | some xs => if isF d = true then .ok xs ρ1 else .st
    | none => .st)
  | .ex e ρ1 => .ex e ρ1
  | .st => .st
def dRng1 (f : Env → Out D) : Env → Out (List D) := fun ρ => match f ρ with
  | .ok (.a (.int j)) ρ1 => if -1000000 ≤ j ∧ j ≤ 1000000 then .ok (intL 0 j.toNat) ρ1 else .st
  | .ok _ _ => .st
  | .ex e ρ1 => .ex e ρ1
  | .st => .st
def dRng2 (f g : Env → Out D) : Env → Out (List D) := fun ρ => match f ρ with
  | .ok (.a (.int i)) ρ1 => (match g ρ1 with
    | .ok (.a (.int j)) ρ2 => if (-1000000 ≤ i ∧ i ≤ 1000000) ∧ -1000000 ≤ j ∧ j ≤ 1000000 then .ok (intL i (j - i).toNat) ρ2 else .st
    | .ok _ _ => .st
    | .ex e ρ2 => .ex e ρ2
    | .st => .st)
  | .ok _ _ => .st
  | .ex e ρ1 => .ex e ρ1
  | .st => .st
section
variable {X : Cx} {cA : Str → Addr} {W : WX} {f g : Env → Out D} {e e2 tg : Expr} {p pos : Pos}
theorem di_of (he : DE X cA W f e) : DI X cA W (dIter f) tg e :=
  PI.imp (pi_or (pi_list he) (pi_or (pi_tup he) (pi_str he))) fun σ H R ⟨Z, L, ρ, r, w, q⟩ => by
    unfold dIter at q
    cases hf : f ρ with
    | st => rw [hf] at q; exact q.elim
    | ex e ρ1 =>
      rw [hf] at q
      exact .inl ⟨Z, L, ρ, r, w, by rw [hf]; exact q⟩
    | ok d ρ1 =>
      rw [hf] at q
      dsimp only at q
      split at q
      · rename_i xs hx
        split at q
        · rename_i hF
          unfold itemsOf at hx
          split at hx
          · rename_i o ys
            split at hx
            · cases hx
              refine .inl ⟨Z, L, ρ, r, w, ?_⟩
              rw [hf]
              intro v H1 Z1 L1 fp r1 w1 h1 F1
              have efp := repD_isF _ h1 hF
              subst efp
              have ho : o = false := by
                have : (!o && isFL xs) = true := hF
                simp at this; exact this.1
              subst ho
              obtain ⟨q0, vs, g, rfl, e1, rr, _, zz⟩ := rep_lst h1
              obtain ⟨z1, z2⟩ := zz rfl
              subst z2
              exact ⟨q0, rfl, ⟨vs, SqL.of e1⟩, q _ H1 Z1 L1 r1 w1 F1 (it_list z1 e1 rr)⟩
            · cases hx
          · rename_i o ys
            split at hx
            · cases hx
              refine .inr (.inl ⟨Z, L, ρ, r, w, ?_⟩)
              rw [hf]
              intro v H1 Z1 L1 fp r1 w1 h1 F1
              obtain ⟨q0, vs, rfl, e1, rr, rfl, _, cc⟩ := rep_tup h1
              exact ⟨q0, rfl, ⟨vs, e1⟩, q _ H1 Z1 L1 r1 w1 F1 (it_tup cc rr)⟩
            · cases hx
          · rename_i s
            split at hx
            · cases hx
              refine .inr (.inr ⟨Z, L, ρ, r, w, ?_⟩)
              rw [hf]
              intro v H1 Z1 L1 fp r1 w1 h1 F1
              obtain ⟨e1, e2⟩ := h1
              subst e1 e2
              exact ⟨s, rfl, q _ H1 Z1 L1 r1 w1 F1 it_str⟩
            · cases hx
          · cases hx
        · exact q.elim
      · exact q.elim
theorem post_int {K : PySem.W.Frag} {σ : L2.St} {H : Hp} {Z : ZS} {L : FP} {ρ : Env} {Q : VK} (r : RelL K cA H Z ρ σ L) (w : Wf H Z L)
    (h : match f ρ with
      | .ok (.a (.int i)) ρ1 => ∀ H1 Z1 L1, RelL K cA H1 Z1 ρ1 σ L1 → Wf H1 Z1 L1 → Fr H Z L H1 Z1 L1 → Q (.int i) H1
      | .ok _ _ => False
      | .ex e ρ1 => ∀ cls d H' Z' L', RelL K cA H' Z' ρ1 σ L' → Wf H' Z' L' → ExR cA H' Z' e cls d → Fr H Z L H' Z' L' → W cls d σ H'
      | .st => False) : TEof K cA W f σ H Q := by
  refine ⟨Z, L, ρ, r, w, ?_⟩
  cases hf : f ρ with
  | st => rw [hf] at h; exact h
  | ex e ρ1 => rw [hf] at h; exact h
  | ok d ρ1 =>
    rw [hf] at h
    intro v H1 Z1 L1 fp r1 w1 h1 F1
    cases d with
    | n k o xs => exact h.elim
    | a x =>
      cases x with
      | non => exact h.elim
      | bl b => exact h.elim
      | str s => exact h.elim
      | int i =>
        obtain ⟨e1, e2⟩ := h1
        subst e1 e2
        exact h H1 Z1 L1 r1 w1 F1
theorem di_rng1 (hg : Gl X "range") (hm : X.mg "range" = none) (he : DE X cA W f e) (hs : starEach [e] X.env = [(false, eval e X.env)] := by kernel_rfl) : DI X cA W (dRng1 f) tg (.Call (.Name "range" p) [e] [] pos) :=
  PI.imp (pi_range1 hg hm (pa_cons he pa_nil hs) hs) fun σ H R ⟨Z, L, ρ, r, w, q⟩ => by
    refine post_int r w ?_
    unfold dRng1 at q
    cases hf : f ρ with
    | st => rw [hf] at q; exact q
    | ex e ρ1 => rw [hf] at q; exact q
    | ok d ρ1 =>
      rw [hf] at q
      cases d with
      | n k o xs => exact q.elim
      | a x =>
        cases x with
        | non => exact q.elim
        | bl b => exact q.elim
        | str s => exact q.elim
        | int i =>
          dsimp only at q
          split at q
          · rename_i hi
            intro H1 Z1 L1 r1 w1 F1
            exact ⟨i, rfl, by omega, by omega, q _ H1 Z1 L1 r1 w1 F1 it_rng⟩
          · exact q.elim
end
def forL (g : D → Env → Option Env) (b : Env → Fl) : List D → Env → Fl
  | [], ρ => .nx ρ
  | d :: ds, ρ => match g d ρ with
    | none => .st
    | some ρ1 => match b ρ1 with
      | .nx ρ2 => forL g b ds ρ2
      | .ct ρ2 => forL g b ds ρ2
      | .bk ρ2 => .nx ρ2
      | .rt d ρ2 => .rt d ρ2
      | .ex e ρ2 => .ex e ρ2
      | .st => .st
def dFor (src : Env → Out (List D)) (g : D → Env → Option Env) (b : Env → Fl) : Env → Fl := fun ρ => match src ρ with
  | .ok ds ρ1 => forL g b ds ρ1
  | .ex e ρ1 => .ex e ρ1
  | .st => .st
theorem drop_cons' {α : Type} {l : List α} {i : Nat} {d : α} (h : l[i]? = some d) : l.drop i = d :: l.drop (i + 1) := by
  obtain ⟨h1, h2⟩ := List.getElem?_eq_some_iff.mp h
  rw [List.drop_eq_getElem_cons h1, h2]
section
variable {X : Cx} {cA : Str → Addr} {W : WX} {k : Option Nat} {src : Env → Out (List D)} {ts : List Nat} {g : D → Env → Option Env} {b : Env → Fl} {iter tg : Expr} {body : List Stmt} {pos : Pos}
theorem it_turn {K : PySem.W.Frag} {J : It} {ds : List D} {H0 H : Hp} {Z0 Z : ZS} {L0 L : FP} {ρ : Env} {σ : L2.St} (hi : ItOf K cA J ds H0 Z0) (w0 : Wf H0 Z0 L0) (F : Fr H0 Z0 L0 H Z L) (r : RelL K cA H Z ρ σ L) (w : Wf H Z L) (i : Nat) :
    (∀ d, ds[i]? = some d → J.go i H ∧ ∀ x H', J.yld i H x H' → ∃ Z2, RelL K cA H' Z2 ρ σ L ∧ Wf H' Z2 L ∧ Fr H Z L H' Z2 L ∧ RepD K cA H' Z2 d x []) ∧ (ds.length ≤ i → J.stop i H) := by
  obtain ⟨a, b⟩ := hi i H Z F.zm (fun a o z e => F.keep a o e fun m => w0.dj a m z) (wf0 w)
  refine ⟨fun d hd => ⟨(a d hd).1, fun x H' y => ?_⟩, b⟩
  obtain ⟨Z2, F2, w2, h2⟩ := (a d hd).2 x H' y
  obtain ⟨r3, w3, F3⟩ := hand0 w r F2 w2
  exact ⟨Z2, r3, w3, F3, h2⟩
theorem ds_for (hp : PassesOwn (model X.prog X.w) X.A X.env X.xe) (hc : X.calm = true) (hi : DI X cA W src tg iter) (hg : DG X cA ts g tg) (hb : DSs X cA W k b body) (hk : ∀ i, k = some i → i ∉ ts)
    (hs : ∀ x, foldedSetIterable iter X.env x = pure x := by intro _; kernel_rfl) : DS X cA W k (dFor src g b) (.For tg iter body [] pos) := ds_of (L2.ps_for hp hc hi hg hb hs) fun T σ H Z L ρ r w p => by
  refine ⟨Z, L, ρ, r, w, ?_⟩
  unfold dFor at p
  cases hsrc : src ρ with
  | st => rw [hsrc] at p; exact p
  | ex e ρ1 => rw [hsrc] at p; exact post_es p
  | ok ds ρ1 =>
    rw [hsrc] at p
    intro J H1 Z1 L1 r1 w1 F1 hit
    refine ⟨fun i m σi Hi => m = ds.length - i ∧ i ≤ ds.length ∧ ∃ Zi Li ρi, RelL X.K cA Hi Zi ρi σi Li ∧ Wf Hi Zi Li ∧ Fr H1 Z1 L1 Hi Zi Li ∧ Pin k σ σi ∧ PostS X.K cA W k σ H Z L T (forL g b (ds.drop i) ρi), ⟨_, rfl, Nat.zero_le _, Z1, L1, ρ1, r1, w1, Fr.refl, Pin.refl, p⟩, ?_⟩
    rintro i m σi Hi ⟨rfl, hil, Zi, Li, ρi, ri, wi, Fi, pi, qi⟩
    obtain ⟨tn, stp⟩ := it_turn hit w1 Fi ri wi i
    cases hd : ds[i]? with
    | none =>
      left
      have hl : ds.length ≤ i := List.getElem?_eq_none_iff.mp hd
      refine ⟨stp hl, ?_⟩
      rw [List.drop_eq_nil_of_le hl] at qi
      exact qi σi Hi Zi Li ri wi (F1.trans Fi) pi
    | some d =>
      right
      obtain ⟨go, yl⟩ := tn d hd
      have hlt : i < ds.length := (List.getElem?_eq_some_iff.mp hd).1
      rw [drop_cons' hd] at qi
      unfold forL at qi
      refine ⟨go, fun σ' H' => ∃ Z' L' ρ', RelL X.K cA H' Z' ρ' σ' L' ∧ Wf H' Z' L' ∧ Fr H1 Z1 L1 H' Z' L' ∧ Pin k σ σ' ∧ PostS X.K cA W k σ H Z L T (forL g b (ds.drop (i + 1)) ρ'), ?_, fun x H' y => ?_⟩
      · rintro σ' H' ⟨Z', L', ρ', a1, a2, a3, a4, a5⟩
        exact ⟨ds.length - (i + 1), by omega, rfl, hlt, Z', L', ρ', a1, a2, a3, a4, a5⟩
      · obtain ⟨Z2, r2, w2, F2, h2⟩ := yl x H' y
        cases hgd : g d ρi with
        | none => rw [hgd] at qi; exact qi.elim
        | some ρa =>
          rw [hgd] at qi
          refine ⟨d, Z2, Li, ρi, ρa, r2, w2, h2, hgd, fun σa Ha Za La ra wa Fa ba => ?_⟩
          have FA : Fr H1 Z1 L1 Ha Za La := (Fi.trans F2).trans Fa
          have pA : Pin k σ σa := pi.trans (ba.pin hk)
          refine ⟨Za, La, ρa, ra, wa, ?_⟩
          dsimp only at qi
          cases hbo : b ρa with
          | st => rw [hbo] at qi; exact qi
          | nx ρ2 => rw [hbo] at qi; exact fun σ' H' Z' L' a1 a2 a3 a4 => ⟨Z', L', ρ2, a1, a2, FA.trans a3, pA.trans a4, qi⟩
          | ct ρ2 => rw [hbo] at qi; exact fun σ' H' Z' L' a1 a2 a3 a4 => ⟨Z', L', ρ2, a1, a2, FA.trans a3, pA.trans a4, qi⟩
          | bk ρ2 => rw [hbo] at qi; exact fun σ' H' Z' L' a1 a2 a3 a4 => qi σ' H' Z' L' a1 a2 ((F1.trans FA).trans a3) (pA.trans a4)
          | rt d ρ2 => rw [hbo] at qi; exact fun v σ' H' Z' L' fp a1 a2 a3 a4 a5 => qi v σ' H' Z' L' fp a1 a2 a3 ((F1.trans FA).trans a4) (pA.trans a5)
          | ex e ρ2 => rw [hbo] at qi; exact fun cls d σ' H' Z' L' a1 a2 a3 a4 a5 => qi cls d σ' H' Z' L' a1 a2 a3 ((F1.trans FA).trans a4) (pA.trans a5)
end
def whL (t : Env → Out Bool) (b : Env → Fl) : Nat → Env → Fl
  | 0, _ => .st
  | m + 1, ρ => match t ρ with
    | .ok false ρ1 => .nx ρ1
    | .ok true ρ1 => (match b ρ1 with
      | .nx ρ2 => whL t b m ρ2
      | .ct ρ2 => whL t b m ρ2
      | .bk ρ2 => .nx ρ2
      | .rt d ρ2 => .rt d ρ2
      | .ex e ρ2 => .ex e ρ2
      | .st => .st)
    | .ex e ρ1 => .ex e ρ1
    | .st => .st
section
variable {X : Cx} {cA : Str → Addr} {W : WX} {k : Option Nat} {t : Env → Out Bool} {b : Env → Fl} {c : Expr} {body : List Stmt} {pos : Pos}
theorem ds_while (m0 : Nat) (hp : PassesOwn (model X.prog X.w) X.A X.env X.xe) (hc : DT X cA W t c) (hb : DSs X cA W k b body) : DS X cA W k (whL t b m0) (.While c body [] pos) := ds_of (L2.ps_while hp hc hb) fun T σ H Z L ρ r w p => by
  refine ⟨fun m σi Hi => ∃ Zi Li ρi, RelL X.K cA Hi Zi ρi σi Li ∧ Wf Hi Zi Li ∧ Fr H Z L Hi Zi Li ∧ Pin k σ σi ∧ PostS X.K cA W k σ H Z L T (whL t b m ρi), ⟨m0, Z, L, ρ, r, w, Fr.refl, Pin.refl, p⟩, ?_⟩
  rintro m σi Hi ⟨Zi, Li, ρi, ri, wi, Fi, pi, qi⟩
  cases m with
  | zero => exact qi.elim
  | succ m =>
    unfold whL at qi
    refine ⟨Zi, Li, ρi, ri, wi, ?_⟩
    cases ht : t ρi with
    | st => rw [ht] at qi; exact qi
    | ex e ρ1 => rw [ht] at qi; exact fun cls d H' Z' L' a1 a2 a3 a4 => qi cls d σi H' Z' L' a1 a2 a3 (Fi.trans a4) pi
    | ok v ρ1 =>
      rw [ht] at qi
      intro Ha Za La ra wa Fa
      have FA := Fi.trans Fa
      cases v with
      | false => exact qi σi Ha Za La ra wa FA pi
      | true =>
        rw [if_pos rfl]
        refine ⟨fun σ' H' => ∃ Z' L' ρ', RelL X.K cA H' Z' ρ' σ' L' ∧ Wf H' Z' L' ∧ Fr H Z L H' Z' L' ∧ Pin k σ σ' ∧ PostS X.K cA W k σ H Z L T (whL t b m ρ'), fun σ' H' q => ⟨m, Nat.lt_succ_self _, q⟩, Za, La, ρ1, ra, wa, ?_⟩
        dsimp only at qi
        cases hbo : b ρ1 with
        | st => rw [hbo] at qi; exact qi
        | nx ρ2 => rw [hbo] at qi; exact fun σ' H' Z' L' a1 a2 a3 a4 => ⟨Z', L', ρ2, a1, a2, FA.trans a3, pi.trans a4, qi⟩
        | ct ρ2 => rw [hbo] at qi; exact fun σ' H' Z' L' a1 a2 a3 a4 => ⟨Z', L', ρ2, a1, a2, FA.trans a3, pi.trans a4, qi⟩
        | bk ρ2 => rw [hbo] at qi; exact fun σ' H' Z' L' a1 a2 a3 a4 => qi σ' H' Z' L' a1 a2 (FA.trans a3) (pi.trans a4)
        | rt d ρ2 => rw [hbo] at qi; exact fun v σ' H' Z' L' fp a1 a2 a3 a4 a5 => qi v σ' H' Z' L' fp a1 a2 a3 (FA.trans a4) (pi.trans a5)
        | ex e ρ2 => rw [hbo] at qi; exact fun cls d σ' H' Z' L' a1 a2 a3 a4 a5 => qi cls d σ' H' Z' L' a1 a2 a3 (FA.trans a4) (pi.trans a5)
end
end DL
namespace DL
open PySem L2
def wipeE (ρ : Env) : List Nat → Env
  | [] => ρ
  | v :: vs => (wipeE ρ vs).set v none
def backE (ρ1 : Env) : List Nat → Env → Env
  | [], ρ => ρ
  | v :: vs, ρ => match ρ1[v]? with
    | some (some d) => if isF d = true ∧ v < (backE ρ1 vs ρ).length then (backE ρ1 vs ρ).set v (some d) else backE ρ1 vs ρ
    | _ => backE ρ1 vs ρ
section
variable {K : PySem.W.Frag} {cA : Str → Addr} {H : Hp} {Z : ZS}
theorem relL_cong : ∀ {ρ : Env} {σ σ' : L2.St} {L : FP}, RelL K cA H Z ρ σ L → σ'.length = σ.length → (∀ (i : Nat) (d : D), ρ[i]? = some (some d) → σ'[i]? = σ[i]?) → RelL K cA H Z ρ σ' L
  | [], σ, σ', L, h, hl, _ => by
    have e := h.1
    subst e
    have : σ' = [] := List.eq_nil_of_length_eq_zero (by simpa using hl)
    subst this
    exact h
  | none :: ρ, σ, σ', L, h, hl, hs => by
    obtain ⟨x, σ1, e, r⟩ := h
    subst e
    cases σ' with
    | nil => simp at hl
    | cons y σ2 => exact ⟨y, σ2, rfl, relL_cong r (by simpa using hl) fun i d e => by simpa using hs (i + 1) d (by simpa using e)⟩
  | some d :: ρ, σ, σ', L, h, hl, hs => by
    obtain ⟨v, σ1, f1, f2, e, h1, h2, ef⟩ := h
    subst e
    cases σ' with
    | nil => simp at hl
    | cons y σ2 =>
      have h0 := hs 0 d rfl
      simp at h0
      subst h0
      exact ⟨v, σ2, f1, f2, rfl, h1, relL_cong h2 (by simpa using hl) fun i d e => by simpa using hs (i + 1) d (by simpa using e), ef⟩
theorem relL_none : ∀ {ρ : Env} {σ : L2.St} {L : FP} (i : Nat), RelL K cA H Z ρ σ L → ∃ L', L'.Sublist L ∧ RelL K cA H Z (ρ.set i none) σ L'
  | [], σ, L, i, h => ⟨L, List.Sublist.refl _, by simpa using h⟩
  | none :: ρ, σ, L, 0, h => ⟨L, List.Sublist.refl _, h⟩
  | some d :: ρ, σ, L, 0, h => by
    obtain ⟨v, σ1, f1, f2, e, h1, h2, ef⟩ := h
    subst ef
    exact ⟨f2, List.sublist_append_right _ _, some v, σ1, e, h2⟩
  | none :: ρ, σ, L, i + 1, h => by
    obtain ⟨x, σ1, e, r⟩ := h
    obtain ⟨L', hs, q⟩ := relL_none i r
    exact ⟨L', hs, x, σ1, e, q⟩
  | some d :: ρ, σ, L, i + 1, h => by
    obtain ⟨v, σ1, f1, f2, e, h1, h2, ef⟩ := h
    subst ef
    obtain ⟨L', hs, q⟩ := relL_none i h2
    exact ⟨f1 ++ L', (List.Sublist.refl f1).append hs, v, σ1, f1, L', e, h1, q, rfl⟩
theorem wipeE_some {ρ : Env} {i : Nat} {d : D} : ∀ {vs : List Nat}, (wipeE ρ vs)[i]? = some (some d) → i ∉ vs ∧ ρ[i]? = some (some d)
  | [], h => ⟨by simp, h⟩
  | v :: vs, h => by
    unfold wipeE at h
    by_cases e : v = i
    · subst e
      by_cases hl : v < (wipeE ρ vs).length
      · rw [List.getElem?_set_self hl] at h; cases h
      · rw [List.getElem?_eq_none (by rw [List.length_set]; omega)] at h; cases h
    · rw [List.getElem?_set_ne e] at h
      obtain ⟨h1, h2⟩ := wipeE_some h
      exact ⟨by simp only [List.mem_cons, not_or]; exact ⟨fun z => e z.symm, h1⟩, h2⟩
theorem relL_wipe {ρ : Env} {σ : L2.St} {L : FP} (h : RelL K cA H Z ρ σ L) (vs : List Nat) : ∃ L', L'.Sublist L ∧ RelL K cA H Z (wipeE ρ vs) (wipe σ vs) L' := by
  have key : ∀ vs, ∃ L', L'.Sublist L ∧ RelL K cA H Z (wipeE ρ vs) σ L' := by
    intro vs
    induction vs with
    | nil => exact ⟨L, List.Sublist.refl _, h⟩
    | cons v vs ih =>
      obtain ⟨L1, s1, r1⟩ := ih
      obtain ⟨L2, s2, r2⟩ := relL_none v r1
      exact ⟨L2, s2.trans s1, r2⟩
  obtain ⟨L', hs, r⟩ := key vs
  refine ⟨L', hs, relL_cong r (wipe_length σ vs) fun i d e => ?_⟩
  exact wipe_out (wipeE_some e).1
theorem relL_back {H1 : Hp} {Z1 : ZS} {ρ1 ρ : Env} {σ : L2.St} {L1 L : FP} (r1 : RelL K cA H1 Z1 ρ1 σ L1) (hz : ∀ a, Z1 a → Z a) (hk : ∀ a o, Z1 a → H1 a = some o → H a = some o) : ∀ vs : List Nat, RelL K cA H Z (wipeE ρ vs) (wipe σ vs) L →
    ∃ L', L'.Sublist L ∧ RelL K cA H Z (backE ρ1 vs (wipeE ρ vs)) σ L' := by
  intro vs h
  have h0 : RelL K cA H Z (wipeE ρ vs) σ L := relL_cong h (wipe_length σ vs).symm fun i d e => (wipe_out (wipeE_some e).1).symm
  generalize wipeE ρ vs = ρw at h0
  clear h
  induction vs with
  | nil => exact ⟨L, List.Sublist.refl _, h0⟩
  | cons v vs ih =>
    obtain ⟨L', hs, r⟩ := ih
    unfold backE
    split
    · rename_i d hd
      split
      · rename_i hc
        obtain ⟨u, f0, f1, f2, hu, hr, ef, _, _⟩ := relL_at r1 hd
        have e := repD_isF d hr hc.1
        subst e
        have hr' : RepD K cA H Z d u [] := repD_mono d hz (fun a o m e => by
          rcases m with m | m
          · exact hk a o m e
          · cases m) hr
        obtain ⟨g0, g2, hs2, q⟩ := relL_set r hc.2 hr'
        rw [set_same hu] at q
        exact ⟨_, (by simpa using hs2 : (g0 ++ [] ++ g2).Sublist L').trans hs, q⟩
      · exact ⟨L', hs, r⟩
    · exact ⟨L', hs, r⟩
theorem wipe_but {σ σ2 : L2.St} {ts : List Nat} : ∀ {vs : List Nat}, (∀ i ∈ ts, i ∈ vs) → But ts (wipe σ vs) σ2 → wipe σ2 vs = wipe σ vs := by
  intro vs hsub b
  have wl : ∀ (τ : L2.St) (vs : List Nat) (i : Nat), i ∈ vs → i < τ.length → (wipe τ vs)[i]? = some none := by
    intro τ vs
    induction vs with
    | nil => intro i h; cases h
    | cons v vs ih =>
      intro i h hl
      unfold wipe
      by_cases e : v = i
      · subst e
        rw [List.getElem?_set_self (by rw [wipe_length]; exact hl)]
      · rw [List.getElem?_set_ne e]
        rcases List.mem_cons.mp h with z | z
        · exact absurd z.symm e
        · exact ih i z hl
  have len : σ2.length = σ.length := by rw [b.1, wipe_length]
  apply List.ext_getElem?
  intro i
  by_cases hi : i ∈ vs
  · by_cases hl : i < σ.length
    · rw [wl σ2 vs i hi (by omega), wl σ vs i hi hl]
    · rw [List.getElem?_eq_none (by rw [wipe_length]; omega), List.getElem?_eq_none (by rw [wipe_length]; omega)]
  · rw [wipe_out hi, b.2 i (fun m => hi (hsub i m)), wipe_out hi]
end
def lcL (vs : List Nat) (g : D → Env → Option Env) (t : Env → Out Bool) (f : Env → Out D) : List D → Env → Out (List D)
  | [], ρ => .ok [] ρ
  | d :: ds, ρ => match g d ρ with
    | none => .st
    | some ρ1 => match t ρ1 with
      | .ok true ρ2 => (match f ρ2 with
        | .ok y ρ3 => (match lcL vs g t f ds (wipeE ρ3 vs) with
          | .ok ys ρ4 => .ok (y :: ys) ρ4
          | _ => .st)
        | _ => .st)
      | .ok false ρ2 => lcL vs g t f ds (wipeE ρ2 vs)
      | _ => .st
def dLc (vs : List Nat) (src : Env → Out (List D)) (g : D → Env → Option Env) (t : Env → Out Bool) (f : Env → Out D) : Env → Out D := fun ρ => match src ρ with
  | .ok ds ρ1 => if ds.length ≤ cap then (match lcL vs g t f ds (wipeE ρ1 vs) with
    | .ok ys ρ2 => .ok (.lst true ys) (backE ρ1 vs (wipeE ρ2 vs))
    | _ => .st) else .st
  | .ex e ρ1 => .ex e ρ1
  | .st => .st
abbrev WN : WX := fun _ _ _ _ => False
def DTs (X : Cx) (cA : Str → Addr) (W : WX) (f : Env → Out Bool) (es : List Expr) : Prop := PTs X es (TTof X.K cA W f)
def dYes : Env → Out Bool := fun ρ => .ok true ρ
theorem PTs.imp {X : Cx} {es : List Expr} {t t' : TT} (h : PTs X es t) (i : ∀ σ H Q, t' σ H Q → t σ H Q) : PTs X es t' := ⟨fun pins s σ H Q I w => h.run pins s σ H Q I (i σ H Q w)⟩
theorem dts_one {X : Cx} {cA : Str → Addr} {W : WX} {t : Env → Out Bool} {c : Expr} (h : DT X cA W t c) : DTs X cA W t [c] := pts_one h
section
variable {X : Cx} {cA : Str → Addr} {W : WX} {src : Env → Out (List D)} {ts : List Nat} {g : D → Env → Option Env} {t : Env → Out Bool} {f : Env → Out D} {iter tg elt : Expr} {ifs : List Expr} {scope : Scope} {own : List (Str × Nat)} {pos : Pos}
theorem acc_put {K : PySem.W.Frag} {H : Hp} {Z : ZS} {q : Addr} {acc : List D} {vacc : List V} {gacc fp L : FP} {y : D} {v : V} (w : Wf H Z ((q :: gacc) ++ (fp ++ L))) (hq : H q = some (.lst vacc)) (ra : RepL K cA H Z acc vacc gacc) (ry : RepD K cA H Z y v fp)
    {ρ : Env} {σ : L2.St} (r : RelL K cA H Z ρ σ L) {H0 : Hp} {Z0 : ZS} {L0 : FP} (F : Fr H0 Z0 L0 H Z ((q :: gacc) ++ (fp ++ L))) :
    RepL K cA (upd H q (.lst (vacc ++ [v]))) Z (acc ++ [y]) (vacc ++ [v]) (gacc ++ fp) ∧ RelL K cA (upd H q (.lst (vacc ++ [v]))) Z ρ σ L ∧ Wf (upd H q (.lst (vacc ++ [v]))) Z ((q :: (gacc ++ fp)) ++ L) ∧ Fr H0 Z0 L0 (upd H q (.lst (vacc ++ [v]))) Z ((q :: (gacc ++ fp)) ++ L) := by
  have nd := List.nodup_append.mp w.nd
  have nq := List.nodup_cons.mp nd.1
  have qz : ¬ Z q := w.dj q (by simp)
  have qfp : q ∉ fp := fun m => nd.2.2 q (by simp) q (by simp [m]) rfl
  have qL : q ∉ L := fun m => nd.2.2 q (by simp) q (by simp [m]) rfl
  have kn : ∀ a o, a ≠ q → H a = some o → upd H q (.lst (vacc ++ [v])) a = some o := fun a o n e => by rw [upd_ne n]; exact e
  have e1 : (q :: gacc) ++ (fp ++ L) = (q :: (gacc ++ fp)) ++ L := by simp
  rw [e1] at w F
  refine ⟨repL_mono _ (fun _ z => z) (fun a o m e => kn a o (fun z => by
    subst z
    rcases m with m | m
    · exact qz m
    · rcases List.mem_append.mp m with m | m
      · exact nq.1 m
      · exact qfp m) e) (repL_append ra (repL_one ry)), relL_mono (fun _ z => z) (fun a o m e => kn a o (fun z => by
    subst z
    rcases m with m | m
    · exact qz m
    · exact qL m) e) r, ⟨w.nd, w.dj, fun a z => ?_⟩, ⟨fun a o e n => ?_, F.zm, F.zs, F.ls⟩⟩
  · obtain ⟨o, e⟩ := w.tz a z
    by_cases h : a = q
    · subst h; exact absurd z qz
    · exact ⟨o, kn a o h e⟩
  · have e2 := F.keep a o e n
    by_cases h : a = q
    · subst h
      rcases F.ls a (by simp) with z | z
      · exact absurd z n
      · rw [z] at e; cases e
    · exact kn a o h e2
theorem te_lc {K : PySem.W.Frag} (hsub : ∀ i ∈ ts, i ∈ own.map (·.2)) : ∀ σ H Q, TEof K cA W (dLc (own.map (·.2)) src g t f) σ H Q →
    tLc (TIof K cA W src) (TGof K cA ts g) (TTof K cA WN t) (TEof K cA WN f) (own.map (·.2)) σ H Q := by
  generalize hvs : own.map (·.2) = vs at hsub ⊢
  rintro σ H Q ⟨Z, L, ρ, r, w, p⟩
  refine ⟨Z, L, ρ, r, w, ?_⟩
  unfold dLc at p
  cases hsrc : src ρ with
  | st => rw [hsrc] at p; exact p
  | ex e ρ1 => rw [hsrc] at p; exact p
  | ok ds ρ1 =>
    rw [hsrc] at p
    dsimp only at p
    split at p
    case isFalse => exact p.elim
    rename_i hcap
    intro J H1 Z1 L1 r1 w1 F1 hit q hq
    obtain ⟨Lw, sw, rw'⟩ := relL_wipe r1 vs
    have kn := keep_new (o := .lst []) hq
    -- where the turns stand
    refine ⟨fun i m Hi => m = ds.length - i ∧ i ≤ ds.length ∧ ∃ Zi Li ρi acc vacc gacc, RelL K cA Hi Zi ρi (wipe σ vs) Li ∧ Wf Hi Zi ((q :: gacc) ++ Li) ∧ Hi q = some (.lst vacc) ∧ RepL K cA Hi Zi acc vacc gacc ∧ acc.length ≤ i ∧ Fr H1 Z1 L1 Hi Zi ((q :: gacc) ++ Li) ∧ ρi = wipeE ρi vs ∧
      (match lcL vs g t f (ds.drop i) ρi with
        | .ok ys ρ2 => PostE K cA W σ H Z L Q (.ok (.lst true (acc ++ ys)) (backE ρ1 vs (wipeE ρ2 vs)))
        | _ => False), ⟨_, rfl, Nat.zero_le _, Z1, Lw, wipeE ρ1 vs, [], [], [], ?_, ?_, upd_same, ⟨rfl, rfl⟩, Nat.le_refl _, ?_, ?_, ?_⟩, ?_⟩
    · exact relL_mono (fun _ z => z) (fun a o _ e => kn a o e) rw'
    · exact wf_new (w1.less sw) hq (fun a m => relL_trk rw' a m)
    · exact (fr_new hq).less fun x m => by
        rcases List.mem_cons.mp m with z | z
        · simp [z]
        · simp [sw.subset (by simpa using z)]
    · -- wiped twice
      have key : ∀ (vs : List Nat) (ρ : Env), (∀ i ∈ vs, i < ρ.length → ρ[i]? = some none) → wipeE ρ vs = ρ := by
        intro vs
        induction vs with
        | nil => intro ρ _; rfl
        | cons v vs ih =>
          intro ρ h
          unfold wipeE
          rw [ih ρ fun i m => h i (by simp [m])]
          apply List.ext_getElem?
          intro j
          by_cases e : v = j
          · subst e
            by_cases hl : v < ρ.length
            · rw [List.getElem?_set_self hl, h v (by simp) hl]
            · rw [List.getElem?_eq_none (by rw [List.length_set]; omega), List.getElem?_eq_none (by omega)]
          · rw [List.getElem?_set_ne e]
      refine (key vs (wipeE ρ1 vs) fun i m hl => ?_).symm
      cases hx : (wipeE ρ1 vs)[i]? with
      | none =>
        have := List.getElem?_eq_none_iff.mp hx
        omega
      | some o =>
        cases o with
        | none => rfl
        | some d => exact absurd m (wipeE_some hx).1
    · rw [List.drop_zero]
      cases hl : lcL vs g t f ds (wipeE ρ1 vs) with
      | ok ys ρ2 => rw [hl] at p; exact p
      | ex e ρ2 => rw [hl] at p; exact p
      | st => rw [hl] at p; exact p
    rintro i m Hi ⟨rfl, hil, Zi, Li, ρi, acc, vacc, gacc, ri, wi, hqi, ra, hacc, Fi, hwi, qi⟩
    have wiL : Wf Hi Zi Li := wi.less (List.sublist_append_right _ _)
    -- the list waits
    have rq : RepD K cA Hi Zi (.lst true acc) (.ref q) (q :: gacc) := ⟨q, vacc, gacc, rfl, ra, ⟨hqi, fun z => nomatch z⟩, rfl, fun z => nomatch z⟩
    have FiL : Fr H1 Z1 L1 Hi Zi Li := Fi.less fun x m => by simp [m]
    obtain ⟨tn, stp⟩ := it_turn hit w1 FiL ri wiL i
    cases hd : ds[i]? with
    | none =>
      left
      have hl : ds.length ≤ i := List.getElem?_eq_none_iff.mp hd
      refine ⟨stp hl, ?_⟩
      rw [List.drop_eq_nil_of_le hl] at qi
      have qi : PostE K cA W σ H Z L Q (.ok (.lst true (acc ++ [])) (backE ρ1 vs (wipeE ρi vs))) := qi
      rw [List.append_nil] at qi
      have ri' := ri
      rw [hwi] at ri'
      obtain ⟨L', hs', rb⟩ := relL_back r1 Fi.zm (fun a o z e => Fi.keep a o e fun m => w1.dj a m z) vs ri'
      have hsub2 : ((q :: gacc) ++ L').Sublist ((q :: gacc) ++ Li) := (List.Sublist.refl _).append hs'
      exact qi (.ref q) Hi Zi L' (q :: gacc) rb (wi.less hsub2) rq (F1.trans (Fi.less fun x m => hsub2.subset m))
    | some d =>
      right
      obtain ⟨go, yl⟩ := tn d hd
      have hlt : i < ds.length := (List.getElem?_eq_some_iff.mp hd).1
      rw [drop_cons' hd] at qi
      unfold lcL at qi
      refine ⟨go, fun H' => ∃ Z' L' ρ' acc' vacc' gacc', RelL K cA H' Z' ρ' (wipe σ vs) L' ∧ Wf H' Z' ((q :: gacc') ++ L') ∧ H' q = some (.lst vacc') ∧ RepL K cA H' Z' acc' vacc' gacc' ∧ acc'.length ≤ i + 1 ∧ Fr H1 Z1 L1 H' Z' ((q :: gacc') ++ L') ∧ ρ' = wipeE ρ' vs ∧
        (match lcL vs g t f (ds.drop (i + 1)) ρ' with
          | .ok ys ρ2 => PostE K cA W σ H Z L Q (.ok (.lst true (acc' ++ ys)) (backE ρ1 vs (wipeE ρ2 vs)))
          | _ => False), ?_, fun x H' y => ?_⟩
      · rintro H' ⟨Z', L', ρ', acc', vacc', gacc', a1, a2, a3, a4, a5, a6, a7, a8⟩
        exact ⟨ds.length - (i + 1), by omega, rfl, hlt, Z', L', ρ', acc', vacc', gacc', a1, a2, a3, a4, a5, a6, a7, a8⟩
      · obtain ⟨Z2, r2, w2, F2, h2⟩ := yl x H' y
        cases hgd : g d ρi with
        | none => rw [hgd] at qi; exact qi.elim
        | some ρa =>
          rw [hgd] at qi
          refine ⟨d, Z2, Li, ρi, ρa, r2, w2, h2, hgd, fun σa Ha Za La ra' wa Fa ba => ?_⟩
          have hwσ := wipe_but hsub ba
          refine ⟨hwσ, ?_⟩
          have FA : Fr Hi Zi Li Ha Za La := F2.trans Fa
          refine ⟨Za, La, ρa, ra', wa, ?_⟩
          dsimp only at qi
          have idem : ∀ ρ : Env, wipeE ρ vs = wipeE (wipeE ρ vs) vs := by
            intro ρ
            have key : ∀ (us : List Nat) (ρ : Env), (∀ i ∈ us, i < ρ.length → ρ[i]? = some none) → wipeE ρ us = ρ := by
              intro us
              induction us with
              | nil => intro ρ _; rfl
              | cons v us ih =>
                intro ρ h
                unfold wipeE
                rw [ih ρ fun i m => h i (by simp [m])]
                apply List.ext_getElem?
                intro j
                by_cases e : v = j
                · subst e
                  by_cases hl : v < ρ.length
                  · rw [List.getElem?_set_self hl, h v (by simp) hl]
                  · rw [List.getElem?_eq_none (by rw [List.length_set]; omega), List.getElem?_eq_none (by omega)]
                · rw [List.getElem?_set_ne e]
            refine (key vs (wipeE ρ vs) fun i m hl => ?_).symm
            cases hx : (wipeE ρ vs)[i]? with
            | none =>
              have := List.getElem?_eq_none_iff.mp hx
              omega
            | some o =>
              cases o with
              | none => rfl
              | some d => exact absurd m (wipeE_some hx).1
          cases ht : t ρa with
          | st => rw [ht] at qi; exact qi
          | ex e ρ2 => rw [ht] at qi; exact qi.elim
          | ok bb ρ2 =>
            rw [ht] at qi
            intro Hb Zb Lb rb wb Fb
            have FB : Fr Hi Zi Li Hb Zb Lb := FA.trans Fb
            cases bb with
            | false =>
              rw [if_neg Bool.false_ne_true]
              obtain ⟨Lw2, sw2, rw2⟩ := relL_wipe rb vs
              rw [hwσ] at rw2
              have wB := wi.wait (repD_trk _ rq) (repD_nt _ rq) FB wb
              have rqB := repD_wait wi rq FB
              have sub3 : ((q :: gacc) ++ Lw2).Sublist ((q :: gacc) ++ Lb) := (List.Sublist.refl _).append sw2
              obtain ⟨p0, vs0, g0, e0, e1, e2, e3, _⟩ := rep_lst rqB
              cases e0
              rw [if_pos rfl] at e3
              cases e3
              exact ⟨Zb, Lw2, wipeE ρ2 vs, acc, vs0, gacc, rw2, wB.less sub3, e1, e2, by omega, (Fi.wait wi FB).less fun x m => sub3.subset m, idem ρ2, qi⟩
            | true =>
              rw [if_pos rfl]
              dsimp only at qi
              refine ⟨Zb, Lb, ρ2, rb, wb, ?_⟩
              cases hfv : f ρ2 with
              | st => rw [hfv] at qi; exact qi
              | ex e ρ3 => rw [hfv] at qi; exact qi.elim
              | ok yv ρ3 =>
                rw [hfv] at qi
                intro v Hc Zc Lc fpc rc wc hc Fc
                dsimp only at qi
                have FC : Fr Hi Zi Li Hc Zc (fpc ++ Lc) := FB.trans Fc
                have wC := wi.wait (repD_trk _ rq) (repD_nt _ rq) FC wc
                have rqC := repD_wait wi rq FC
                have FC1 := Fi.wait wi FC
                obtain ⟨p0, vs0, g0, e0, e1, e2, e3, _⟩ := rep_lst rqC
                cases e0
                rw [if_pos rfl] at e3
                cases e3
                have len := repL_len e2
                refine ⟨vs0, e1, cap_lt (by omega), ?_⟩
                obtain ⟨b1, b2, b3, b4⟩ := acc_put wC e1 e2 hc rc FC1
                obtain ⟨Lw2, sw2, rw2⟩ := relL_wipe b2 vs
                rw [hwσ] at rw2
                have sub3 : ((q :: (gacc ++ fpc)) ++ Lw2).Sublist ((q :: (gacc ++ fpc)) ++ Lc) := (List.Sublist.refl _).append sw2
                refine ⟨Zc, Lw2, wipeE ρ3 vs, acc ++ [yv], vs0 ++ [v], gacc ++ fpc, rw2, b3.less sub3, upd_same, b1, by simp; omega, b4.less fun x m => sub3.subset m, idem ρ3, ?_⟩
                cases hrest : lcL vs g t f (ds.drop (i + 1)) (wipeE ρ3 vs) with
                | st => rw [hrest] at qi; exact qi
                | ex e ρ4 => rw [hrest] at qi; exact qi
                | ok ys ρ4 =>
                  rw [hrest] at qi
                  show PostE K cA W σ H Z L Q (.ok (.lst true ((acc ++ [yv]) ++ ys)) _)
                  rw [List.append_assoc]
                  exact qi
theorem de_lc (hc : X.calm = true) (hN : X.N.Nodup) (hi : DI X cA W src tg iter) (ok : BlkOk X.N X.env.scope scope own) (hsub : ∀ i ∈ ts, i ∈ own.map (·.2))
    (hg : ∀ (s : Shared) (H : Hp) (C : Addr) (cl : List (Str × Addr)) (fp : List Addr), DG (X.blk s H scope (compEnvC scope cl C X.env) fp) cA ts g tg)
    (ht : ∀ (s : Shared) (H : Hp) (C : Addr) (cl : List (Str × Addr)) (fp : List Addr), DTs (X.blk s H scope (compEnvC scope cl C X.env) fp) cA WN t ifs)
    (he : ∀ (s : Shared) (H : Hp) (C : Addr) (cl : List (Str × Addr)) (fp : List Addr), DE (X.blk s H scope (compEnvC scope cl C X.env) fp) cA WN f elt) (hs : ∀ x, foldedSetIterable iter X.env x = pure x := by intro _; kernel_rfl) :
    DE X cA W (dLc (own.map (·.2)) src g t f) (.ListComp elt [⟨tg, iter, ifs, 0⟩] scope pos) := PE.imp (pe_lc (g := TGof X.K cA ts g) (tt := TTof X.K cA WN t) (te := TEof X.K cA WN f) hc hN hi ok hg ht he hs) (te_lc hsub)
theorem ds_setLc {k : Option Nat} {i : Nat} {y : Str} {py spos : Pos} (hc : X.calm = true) (hN : X.N.Nodup) (hy : X.N[i]? = some y) (hyl : X.env.scope.names.lookup y = some .local)
    (hsw : swapsWith (.ListComp elt [⟨tg, iter, ifs, 0⟩] scope pos) (some (.Name y py)) spos.line X.env = pure true) (hi : DI X cA W src tg iter) (ok : BlkOk X.N X.env.scope scope own) (hsub : ∀ i ∈ ts, i ∈ own.map (·.2))
    (hg : ∀ (s : Shared) (H : Hp) (C : Addr) (cl : List (Str × Addr)) (fp : List Addr), DG (X.blk s H scope (compEnvC scope cl C X.env) fp) cA ts g tg)
    (ht : ∀ (s : Shared) (H : Hp) (C : Addr) (cl : List (Str × Addr)) (fp : List Addr), DTs (X.blk s H scope (compEnvC scope cl C X.env) fp) cA WN t ifs)
    (he : ∀ (s : Shared) (H : Hp) (C : Addr) (cl : List (Str × Addr)) (fp : List Addr), DE (X.blk s H scope (compEnvC scope cl C X.env) fp) cA WN f elt) (hk : k ≠ some i := by decide) (hs : ∀ x, foldedSetIterable iter X.env x = pure x := by intro _; kernel_rfl) :
    DS X cA W k (dBind (dLc (own.map (·.2)) src g t f) (stSet i)) (.Assign [.Name y py] (.ListComp elt [⟨tg, iter, ifs, 0⟩] scope pos) spos) :=
  ds_of (L2.ps_setLc (g := TGof X.K cA ts g) (tt := TTof X.K cA WN t) (te := TEof X.K cA WN f) hc hN hy hyl hsw hi ok hg ht he hs) fun T σ H Z L ρ r w p => te_lc hsub σ H _ (bind_te r w p fun d ρ1 v H1 Z1 L1 fp hd r1 w1 h1 F1 p => put_slot hk r1 w1 h1 F1 p)
end
theorem ds_frz {X : Cx} {cA : Str → Addr} {W : WX} {k : Option Nat} {f : Env → Fl} {st : Stmt} (i : Nat) (h : DS X cA W k f st) (hk : k ≠ some i := by decide) : DS X cA W k (dSeq f fun ρ => match ρ[i]? with | some (some d) => .nx (ρ.set i (some (frz d))) | _ => .nx ρ) st :=
  ds_of h fun T σ H Z L ρ r w p => ⟨Z, L, ρ, r, w, by
    unfold dSeq at p
    cases hf : f ρ with
    | st => rw [hf] at p; exact p
    | bk ρ1 => rw [hf] at p; exact p
    | ct ρ1 => rw [hf] at p; exact p
    | rt d ρ1 => rw [hf] at p; exact p
    | ex e ρ1 => rw [hf] at p; exact p
    | nx ρ1 =>
      rw [hf] at p
      intro σ1 H1 Z1 L1 r1 w1 F1 q1
      dsimp only at p
      split at p
      · rename_i d hd
        obtain ⟨v, f0, f1, f2, hv, hr, ef, put, _⟩ := relL_at r1 hd
        have pm : L1.Perm (f1 ++ (f0 ++ f2)) := by
          rw [ef, List.append_assoc]
          exact (List.perm_append_comm_assoc f0 f1 f2)
        have q := put (H' := H1) (Z' := ZU Z1 f1) zu_sub (fun _ _ _ e => e) (repD_zu hr)
        rw [set_same hv, List.append_nil] at q
        exact p σ1 H1 _ _ q ((w1.perm pm).freeze (repD_trk d hr)) (Fr.freeze (F1.less fun x m => pm.mem_iff.mpr m)) q1
      · exact p σ1 H1 Z1 L1 r1 w1 F1 q1⟩
end DL
namespace DL
open PySem L2
section
variable {K : PySem.W.Frag} {cA : Str → Addr} {H : Hp} {Z : ZS}
end
def gFld (f : Str) : D → Option D
  | .n (.ins _ fs) _ xs => (match (fs.zip xs).lookup f with
    | some d => if isF d = true then some d else none
    | none => none)
  | _ => none
section
variable {X : Cx} {cA : Str → Addr} {W : WX} {fa : Env → Out D} {e o : Expr} {pos : Pos}
def stFld (C f : Str) (i : Nat) (d : D) (ρ : Env) : Fl := match ρ[i]? with
  | some (some (.n (.ins C' fs) true xs)) => if C' = C ∧ f ∉ fs ∧ xs.length < 900 then .nx (ρ.set i (some (.n (.ins C (fs ++ [f])) true (xs ++ [d])))) else .st
  | _ => .st
end
def dMeth (C m : Str) (n : Nat) (F : List D → FR) (fa : Env → Out D) (g : Env → Out (List Ag)) : Env → Out D := fun ρ => match fa ρ with
  | .ok (.n (.ins C' fs) false xs) ρ1 => if C' = C ∧ m ∉ fs ∧ isFL xs = true then dCall n (fun ds => F (.n (.ins C fs) false xs :: ds)) g ρ1 else .st
  | .ok _ _ => .st
  | .ex e ρ1 => .ex e ρ1
  | .st => .st
def dMake (C : Str) (n : Nat) (F : List D → FR) (g : Env → Out (List Ag)) : Env → Out D := fun ρ => match g ρ with
  | .ok ds ρ1 => (match agL ds with
    | some xs => if xs.length = n then (match F (.n (.ins C []) true [] :: frzL xs) with
      | .rt (.a .non) (some d) => .ok d ρ1
      | .ex e _ => .ex e ρ1
      | _ => .st) else .st
    | none => .st)
  | .ex e ρ1 => .ex e ρ1
  | .st => .st
section
variable {X : Cx} {cA : Str → Addr} {W : WX} {fa : Env → Out D} {g : Env → Out (List Ag)} {k n : Nat} {kio : Option Nat} {f : Addr} {fd : FuncData} {ps : List Str} {F : List D → FR} {x m : Str} {p pos apos : Pos} {o e : Expr} {es : List Expr}
end
def dPopAt (i : Nat) (fj : Env → Out D) : Env → Out D := fun ρ => match ρ[i]? with
  | some (some (.n .lst true _)) => (match fj ρ with
    | .ok (.a (.int z)) ρ1 => (match ρ1[i]? with
      | some (some (.n .lst true xs)) => if -1000000 ≤ z ∧ z ≤ 1000000 then (match seqIndex? z xs.length with
        | some j => (match xs[j]? with
          | some d => .ok d (ρ1.set i (some (.lst true (xs.eraseIdx j))))
          | none => .st)
        | none => .st) else .st
      | _ => .st)
    | .ok _ _ => .st
    | .ex e ρ1 => .ex e ρ1
    | .st => .st)
  | _ => .st
section
variable {X : Cx} {cA : Str → Addr} {W : WX} {f : Env → Out D} {e o : Expr} {apos cpos : Pos}
end
end DL
namespace DL
open PySem L2
def tyN : D → Option String
  | .a .non => some "NoneType"
  | .a (.bl _) => some "bool"
  | .a (.int _) => some "int"
  | .a (.str _) => some "str"
  | .n .tup _ _ => some "tuple"
  | .n .lst _ _ => some "list"
  | .n (.dct _) _ _ => some "dict"
  | _ => none
def isiT (t T : String) : Bool := t == T || (t == "bool" && T == "int")
def tyAll : List String := ["NoneType", "bool", "int", "str", "tuple", "list", "dict"]
theorem kit_tab : ∀ t ∈ tyAll, ∀ T ∈ tyAll, kitB t T = some (isiT t T) := by decide +kernel
section
variable {K : PySem.W.Frag} {cA : Str → Addr} {H : Hp} {Z : ZS}
theorem tyN_ok {d : D} {t : String} {v : V} {fp : FP} (e : tyN d = some t) (h : RepD K cA H Z d v fp) : t ∈ tyAll ∧ TyX K H v (.type t) := by
  cases d with
  | a x =>
    obtain ⟨e1, _⟩ := h
    subst e1
    cases x with
    | non => cases e; exact ⟨by decide, .base .non⟩
    | bl b => cases e; exact ⟨by decide, .base (.bl b)⟩
    | int i => cases e; exact ⟨by decide, .base (.int i)⟩
    | str s => cases e; exact ⟨by decide, .base (.str s)⟩
  | n k o xs =>
    cases k with
    | tup =>
      cases e
      obtain ⟨p, vs, rfl, e1, r1, _, _, c⟩ := rep_tup h
      refine ⟨by decide, ?_⟩
      rcases c with ⟨_, o, r, _⟩ | ⟨o, its, n, hk, hc, _⟩
      · exact .fTuple r
      · exact .kTuple hk hc
    | lst =>
      cases e
      obtain ⟨p, vs, g, rfl, e1, _⟩ := rep_lst h
      exact ⟨by decide, .base (.lst e1)⟩
    | scr => cases e
    | dct ks =>
      cases e
      obtain ⟨p, vs, g, rfl, hl, hc, _⟩ := h
      exact ⟨by decide, .base (.dK hc.1)⟩
    | xt t => cases e
    | ins C fs => cases e
end
def gIsi (T : String) : D → Option D := fun d => match tyN d with
  | some t => some (.bl (isiT t T))
  | none => none
def gIsi2 (T U : String) : D → Option D := fun d => match tyN d with
  | some t => some (.bl (isiT t T || isiT t U))
  | none => none
theorem vu_isi {K : PySem.W.Frag} {cA : Str → Addr} {T : String} (hT : T ∈ tyAll) : VU K cA (fun v H Q => rIsi K [v, .ty T] H Q) (gIsi T) := by
  refine ⟨@fun d1 d v1 H Z f1 Q h1 w hg q => ?_⟩
  unfold gIsi at hg
  split at hg
  · rename_i t e
    cases hg
    obtain ⟨ht, ty⟩ := tyN_ok e h1
    exact ⟨_, _, _, _, _, rfl, .ty T, ty, kit_ty (kit_tab t ht T hT), q _ H Z [] ⟨rfl, rfl⟩ w Fr.refl⟩
  · cases hg
section
variable {X : Cx} {cA : Str → Addr} {W : WX} {fa fb : Env → Out D} {a b : Expr} {pos : Pos}
theorem de_isi {x : Str} {T : String} {p q : Pos} (hg : Gl X "isinstance") (hm : X.mg "isinstance" = none) (hg2 : Gl X x) (hm2 : X.mg x = none) (hv2 : bootBuiltins x = some (.type T)) (hT : T ∈ tyAll) (ha : DP X cA W fa a)
    (hn2 : x ≠ "__name__" := by decide +kernel) (hd2 : (x == ("__debug__" : Str)) = false := by kernel_rfl)
    (hs1 : starEach [a, .Name x q] X.env = (false, eval a X.env) :: starEach [.Name x q] X.env := by kernel_rfl) (hs2 : starEach [.Name x q] X.env = (false, eval (.Name x q) X.env) :: starEach [] X.env := by kernel_rfl) (hpl : (backTo pos (starEach [.Name x q] X.env)).any (·.1) = false := by kernel_rfl) :
    DE X cA W (dU (gIsi T) fa) (.Call (.Name "isinstance" p) [a, .Name x q] [] pos) :=
  PE.imp (pe_callB call_isi hg hm PyProof.Rows.boot_isinstance (pa_cons ha (pa_cons (pe_bltn (v := .ty T) hg2 hm2 hv2 rfl hn2 hd2) pa_nil hs2) hs1) (by decide) (by decide) hs1 hpl) (te_un (vu_isi hT))
abbrev gBits : D → Option D := gI fun i => (Builtin.Int.intBits i : Nat)
theorem de_bits {apos : Pos} (ha : DE X cA W fa a) (hbase : attributeBase a "bit_length" X.env (eval a X.env) = eval a X.env := by kernel_rfl) (hline : (apos.endLine == pos.line) = true := by kernel_rfl) : DE X cA W (dU gBits fa) (.Call (.Attribute a "bit_length" apos) [] [] pos) :=
  PE.imp (pe_bits (dp_de ha) hbase hline) (te_un (vu_i (f := fun i => (Builtin.Int.intBits i : Nat))))
end
theorem gl_of {X : Cx} {x : Str} (h : X.env.scope.names.lookup x = some .globalImplicit := by kernel_rfl) : Gl X x := h
theorem pvl {X : Cx} (i : Nat) {x : Str} {pos : Pos} (hN : X.N[i]? = some x := by kernel_rfl) (hv : X.env.scope.names.lookup x = some .local := by kernel_rfl) (hd : (x == ("__debug__" : Str)) = false := by kernel_rfl) (hc : (x == ("__classdict__" : Str)) = false := by kernel_rfl) : PE X (.Name x pos) (tVar i) := pe_var hN (.inl hv) hd hc
theorem pvc {X : Cx} (i : Nat) {x : Str} {pos : Pos} (hN : X.N[i]? = some x := by kernel_rfl) (hv : X.env.scope.names.lookup x = some .cell := by kernel_rfl) (hd : (x == ("__debug__" : Str)) = false := by kernel_rfl) (hc : (x == ("__classdict__" : Str)) = false := by kernel_rfl) : PE X (.Name x pos) (tVar i) := pe_var hN (.inr (.inl hv)) hd hc
def dDp (f : Env → Out D) : Env → Out D := fun ρ => match f ρ with
  | .ok d ρ1 => if isF d = true then .ok d ρ1 else .st
  | .ex e ρ1 => .ex e ρ1
  | .st => .st
def dFrz (i : Nat) (f : Env → Fl) : Env → Fl := dSeq f fun ρ => match ρ[i]? with | some (some d) => .nx (ρ.set i (some (frz d))) | _ => .nx ρ
theorem ds_frzN {X : Cx} {cA : Str → Addr} {W : WX} {k : Option Nat} {f : Env → Fl} {st : Stmt} (i : Nat) (h : DS X cA W k f st) (hk : k ≠ some i := by decide) : DS X cA W k (dFrz i f) st := ds_frz i h hk
theorem room_u1 {k : Nat} {A : Around} (r : Room k A) : A.units + 65 < cLine := by have := r.un; omega
structure OkC (P : Program) (w : World) (K : PySem.W.Frag) (mg : Str → Option Value) (base : Heap) (f : Addr) (ps : List Str) (k : Nat) (sp : Sp) : Prop where
  ex : ∃ fd, FnOk P w K mg base (L2.CX P w) k f fd ps sp ∧ Binds K fd ps []
section
variable {P : Program} {w : World} {K : PySem.W.Frag} {cA : Str → Addr} {mg : Str → Option Value} {base : Heap}
theorem fn_okF0 {x qual : Str} {params : Arguments} {stb : List Stmt} {scope : Scope} {f : Addr} {fd : FuncData} {N ps : List Str} {k : Nat} {kio : Option Nat} {body : Env → Fl} (F : FunD K x qual params stb scope [] [] f fd) (S : FnScope N ps scope)
    (hb : ∀ (cdv : Value) (A : Around) (outer : List PySem.Env) (s : Shared) (H : Hp) (E : XK), Room k (A.deeper (PyProof.Rows.envOfC qual scope s.heap.objs.size f cdv)) →
      DSs (cxOf (L2.CX P w) P w K mg base N qual scope f cdv A outer s H E) cA (fun cls d _ H' => E cls d H') kio body stb) :
    FnOk P w K mg base (L2.CX P w) (k + 1) f fd ps (spF K cA ps.length kio (fnD N.length kio body)) := by
  refine F.ok S (fun vs H Q E h => h.1) fun cdv A outer s H vs Q E hr h => ?_
  obtain ⟨hl, ds, Z, L, r, wf, p⟩ := h
  refine ⟨_, hb cdv A outer s H E hr, ?_⟩
  have e : N.length - ds.length = N.length - vs.length := by rw [repL_len r]
  refine ⟨Z, L, ds.map some ++ List.replicate (N.length - vs.length) none, relL_start r, wf, ?_⟩
  unfold fnD at p
  rw [e] at p
  cases hbo : body (ds.map some ++ List.replicate (N.length - vs.length) none) with
  | st => rw [hbo] at p; exact p
  | bk ρ => rw [hbo] at p; exact p.elim
  | ct ρ => rw [hbo] at p; exact p.elim
  | nx ρ =>
    rw [hbo] at p
    intro σ' H' Z' L' r' w' F' pn
    obtain ⟨g, hg, ri⟩ := io_end (σ0 := σ') r' pn
    exact p _ H' Z' [] g ri ⟨rfl, rfl⟩ (w'.less hg) (F'.less fun x m => hg.subset m)
  | rt d ρ =>
    rw [hbo] at p
    intro v σ' H' Z' L' fp r' w' h' F' pn
    obtain ⟨g, hg, ri⟩ := io_end (σ0 := σ') r' pn
    exact p v H' Z' fp g ri h' (wf_sub2 w' hg) (fr_sub2 F' hg)
  | ex e ρ =>
    rw [hbo] at p
    intro cls d σ' H' Z' L' r' w' x' F' pn
    obtain ⟨g, hg, ri⟩ := io_end (σ0 := σ') r' pn
    exact p cls d H' Z' g ri (w'.less hg) x' (F'.less fun x m => hg.subset m)
theorem fn_okD0 {x qual : Str} {params : Arguments} {stb : List Stmt} {scope : Scope} {f : Addr} {N ps : List Str} {k : Nat} {kio : Option Nat} {body : Env → Fl} (F : ∃ fd, FunD K x qual params stb scope [] [] f fd) (S : FnScope N ps scope)
    (hbi : ∀ (kV doc pm : Value) (an : Option Addr) (cdv ct : Value) (us : List Value), us.length = ps.length → bindArgs (PySem.W.fnOf x qual params stb scope .none kV doc pm an cdv ct) ⟨us, []⟩ = pure (ps.zip us))
    (hb : ∀ (cdv : Value) (A : Around) (outer : List PySem.Env) (s : Shared) (H : Hp) (E : XK), Room k (A.deeper (PyProof.Rows.envOfC qual scope s.heap.objs.size f cdv)) →
      DSs (cxOf (L2.CX P w) P w K mg base N qual scope f cdv A outer s H E) cA (fun cls d _ H' => E cls d H') kio body stb) :
    OkC P w K mg base f ps (k + 1) (spF K cA ps.length kio (fnD N.length kio body)) :=
  let ⟨fd, F⟩ := F
  ⟨fd, fn_okF0 F S hb, F.bindsN hbi⟩
theorem fn_okF {x qual : Str} {params : Arguments} {stb : List Stmt} {scope : Scope} {f : Addr} {fd : FuncData} {N ps : List Str} {k n m : Nat} {kio : Option Nat} {body : Env → Fl} (F : FunD K x qual params stb scope [] [] f fd) (S : FnScope N ps scope)
    (hb : ∀ (cdv : Value) (A : Around) (outer : List PySem.Env) (s : Shared) (H : Hp) (E : XK), Room k (A.deeper (PyProof.Rows.envOfC qual scope s.heap.objs.size f cdv)) →
      DSs (cxOf (L2.CX P w) P w K mg base N qual scope f cdv A outer s H E) cA (fun cls d _ H' => E cls d H') kio body stb) (hn : ps.length = n := by kernel_rfl) (hm : N.length = m := by kernel_rfl) :
    FnOk P w K mg base (L2.CX P w) (k + 1) f fd ps (spF K cA n kio (fnD m kio body)) := by
  subst hn hm
  exact fn_okF0 F S hb
theorem fn_okD {x qual : Str} {params : Arguments} {stb : List Stmt} {scope : Scope} {f : Addr} {N ps : List Str} {k n m : Nat} {kio : Option Nat} {body : Env → Fl} (F : ∃ fd, FunD K x qual params stb scope [] [] f fd) (S : FnScope N ps scope)
    (hbi : ∀ (kV doc pm : Value) (an : Option Addr) (cdv ct : Value) (us : List Value), us.length = ps.length → bindArgs (PySem.W.fnOf x qual params stb scope .none kV doc pm an cdv ct) ⟨us, []⟩ = pure (ps.zip us))
    (hb : ∀ (cdv : Value) (A : Around) (outer : List PySem.Env) (s : Shared) (H : Hp) (E : XK), Room k (A.deeper (PyProof.Rows.envOfC qual scope s.heap.objs.size f cdv)) →
      DSs (cxOf (L2.CX P w) P w K mg base N qual scope f cdv A outer s H E) cA (fun cls d _ H' => E cls d H') kio body stb) (hn : ps.length = n := by kernel_rfl) (hm : N.length = m := by kernel_rfl) :
    OkC P w K mg base f ps (k + 1) (spF K cA n kio (fnD m kio body)) := by
  subst hn hm
  exact fn_okD0 F S hbi hb
theorem takes_cx {N : List Str} {qual : Str} {scope : Scope} {f : Addr} {cdv : Value} {A : Around} {outer : List PySem.Env} {s : Shared} {H : Hp} {E : XK} : Takes (cxOf (L2.CX P w) P w K mg base N qual scope f cdv A outer s H E) (fun cls d _ H' => E cls d H') := takes_of rfl rfl rfl rfl
theorem passes_cx {N : List Str} {qual : Str} {scope : Scope} {f : Addr} {cdv : Value} {A : Around} {outer : List PySem.Env} {s : Shared} {H : Hp} {E : XK} :
    PassesOwn (model (cxOf (L2.CX P w) P w K mg base N qual scope f cdv A outer s H E).prog (cxOf (L2.CX P w) P w K mg base N qual scope f cdv A outer s H E).w) (cxOf (L2.CX P w) P w K mg base N qual scope f cdv A outer s H E).A (cxOf (L2.CX P w) P w K mg base N qual scope f cdv A outer s H E).env (cxOf (L2.CX P w) P w K mg base N qual scope f cdv A outer s H E).xe := passes_of rfl
end
section
variable {X : Cx} {cA : Str → Addr} {W : WX} {g : Env → Out (List Ag)} {fa : Env → Out D} {o e : Expr} {es : List Expr} {x m : Str} {f : Addr} {ps : List Str} {k n : Nat} {kio : Option Nat} {F : List D → FR} {p pos apos : Pos}
theorem de_callG (Fo : OkC X.prog X.w X.K X.mg X.base f ps k (spF X.K cA n kio F)) (hr : Room k X.A) (hg : Gl X x) (hm : X.mg x = some (.ref f) ∧ PySem.W.keepIn X.K (.ref f) = true) (tk : Takes X W) (ha : DA X cA W g (e :: es)) (hdb : (x == ("__debug__" : Str)) = false := by kernel_rfl)
    (he : starEach (e :: es) X.env = (false, eval e X.env) :: starEach es X.env := by kernel_rfl) (hpl : (backTo pos (starEach es X.env)).any (·.1) = false := by kernel_rfl) : DE X cA W (dCall n F g) (.Call (.Name x p) (e :: es) [] pos) :=
  let ⟨fd, Fo, hb⟩ := Fo.ex
  de_call Fo hr hg hm.1 hm.2 hb tk ha hdb he hpl
theorem de_callLG (Fo : OkC X.prog X.w X.K X.mg X.base f ps k (spF X.K cA n kio F)) (hr : Room k X.A) (hg : Gl X x) (hm : X.mg x = some (.ref f) ∧ PySem.W.keepIn X.K (.ref f) = true) (tk : Takes X W) (ha : DA X cA W g (e :: es)) (hdb : (x == ("__debug__" : Str)) = false := by kernel_rfl)
    (he : starEach (e :: es) X.env = (false, eval e X.env) :: starEach es X.env := by kernel_rfl) (hpl : (backTo pos (starEach es X.env)).any (·.1) = false := by kernel_rfl) : DE X cA W (dCallL n kio F g) (.Call (.Name x p) (e :: es) [] pos) :=
  let ⟨fd, Fo, hb⟩ := Fo.ex
  de_callL Fo hr hg hm.1 hm.2 hb tk ha hdb he hpl
end
theorem repL_ints {K : PySem.W.Frag} {cA : Str → Addr} {H : Hp} {Z : ZS} : ∀ ns : List Int, RepL K cA H Z (ns.map D.int) (ns.map V.int) []
  | [] => ⟨rfl, rfl⟩
  | n :: ns => ⟨.int n, ns.map V.int, [], [], rfl, ⟨rfl, rfl⟩, repL_ints ns, rfl⟩
theorem law_sp {K : PySem.W.Frag} {cA : Str → Addr} {F : List D → FR} {H : Hp} {a : Addr} {ns : List Int} (hS : SqL K H a (ns.map V.int)) (law : F [.scr (ns.map D.int)] = .rt (.bl true) none) : spF K cA 1 none F [.ref a] H (fun v _ => v = .bl true) fun _ _ _ => False := by
  have fin : ∀ Z : ZS, Wf H Z [] → Cont K cA H Z a (ns.map V.int) .scr false → spF K cA 1 none F [.ref a] H (fun v _ => v = .bl true) fun _ _ _ => False := by
    intro Z w c
    refine ⟨rfl, [.scr (ns.map D.int)], Z, [], ⟨.ref a, [], [], [], rfl, ⟨a, ns.map V.int, [], rfl, repL_ints ns, c, rfl, fun _ => rfl⟩, ⟨rfl, rfl⟩, rfl⟩, w, ?_⟩
    rw [law]
    intro v H' Z' fp g hi hd _ _
    exact hd.1
  rcases hS with r | r
  · refine fin (fun b => b = a) ⟨List.nodup_nil, fun a m => (nomatch m), fun b e => ?_⟩ ⟨rfl, .inl ⟨rfl, r⟩⟩
    subst e
    rcases r with r | ⟨o, r⟩
    · exact ⟨_, r⟩
    · exact ⟨_, r⟩
  · exact fin (fun _ => False) ⟨List.nodup_nil, fun a m => (nomatch m), fun b e => e.elim⟩ ⟨rfl, .inr r⟩
theorem law_end {l : PySem.W.OpenLaw} {k : Nat} {q : Program} {loose : List Str} {XP : (Str → Option Value) → Heap → Prop} {YP : World → Heap → Prop} {d : DefRec} {x : Str} {cA : PySem.W.Frag → Str → Addr} {F : List D → FR}
    (hn : l.most = some 63) (hdf : d.params.defaults = []) (hr : Room k callerA)
    (HF : ∀ (w : World) (mg : Str → Option Value) (fa : Addr) (h : Heap), YP w h → h.Ns mainGlobals mg → mg d.name = some (.ref fa) →
      ∃ (K : PySem.W.Frag) (fd : FuncData), K.In h ∧ (∀ (s : Shared) (u : Value), BindsTo s fd ⟨[u], []⟩ [(x, u)]) ∧
        ∀ base : Heap, K.In base → base.Ns mainGlobals mg → FnOk l.prog w K mg base (L2.CX l.prog w) k fa fd [x] (spF K (cA K) 1 none F))
    (law : ∀ ns : List Int, ns.length ≤ 63 → (∀ z ∈ ns, Builtin.Int.intBits z ≤ 1048576) → F [.scr (ns.map D.int)] = .rt (.bl true) none) :
    PySem.W.WalkO q loose XP YP l.row.toRowW d [] (fun f vs => PySem.call f vs) := by
  refine Att.attach_callB hn hdf fun w s₀ s₁ mg mb fa o pm cd doc a vs ns G Y ho hd hcd hmg hobj hints hlen hbits hg => ?_
  obtain ⟨K, fd, KX, hb, hF⟩ := HF w mg fa _ Y G.T.g hmg
  refine law_call KX G.T.g G.T.b G.T.builtins G.T.nolimit hg hobj hints (Nat.le_trans hlen (by rw [sizeLine_eq]; omega)) hr hF hb (fun H hO hS => law_sp hS (law ns hlen hbits)) fun H e s' z => ?_
  obtain ⟨_, _, _, _, _, _, _, _, _, _, _, _, z⟩ := z
  exact z.elim
end DL
namespace DL
open PySem L2
section
variable {X : Cx} {cA : Str → Addr} {W : WX} {g : Env → Out (List Ag)} {fa fb : Env → Out D} {a b o e : Expr} {es : List Expr} {x m : Str} {f : Addr} {ps : List Str} {k n : Nat} {kio : Option Nat} {F : List D → FR} {p pos apos : Pos}
theorem de_call0G (Fo : OkC X.prog X.w X.K X.mg X.base f ps k (spF X.K cA 0 none F)) (hr : Room k X.A) (hg : Gl X x) (hm : X.mg x = some (.ref f) ∧ PySem.W.keepIn X.K (.ref f) = true) (tk : Takes X W) (hdb : (x == ("__debug__" : Str)) = false := by kernel_rfl) : DE X cA W (dCall0 F) (.Call (.Name x p) [] [] pos) :=
  let ⟨fd, Fo, hb⟩ := Fo.ex
  de_call0 Fo hr hg hm.1 hm.2 hb tk hdb
end
def gLRng : D → Option D
  | .a (.int n) => if -4611686018427387904 ≤ n ∧ n ≤ 16777216 then some (.lst true (intL 0 n.toNat)) else none
  | _ => none
def gTRng : D → Option D
  | .a (.int n) => if -4611686018427387904 ≤ n ∧ n ≤ 16777216 then some (.tup (intL 0 n.toNat)) else none
  | _ => none
section
variable {X : Cx} {cA : Str → Addr} {W : WX} {fa fb : Env → Out D} {a b : Expr} {pos p p2 pos2 : Pos}
end
def blsOf : List D → Option (List Bool)
  | [] => some []
  | .a (.bl b) :: xs => (blsOf xs).map (b :: ·)
  | _ :: _ => none
def intsOf : List D → Option (List Int)
  | [] => some []
  | .a (.int i) :: xs => (intsOf xs).map (i :: ·)
  | _ :: _ => none
section
variable {K : PySem.W.Frag} {cA : Str → Addr} {H : Hp} {Z : ZS}
end
def gAll : D → Option D
  | .n .lst _ xs => (blsOf xs).map fun bs => .bl (bs.all id)
  | _ => none
def gMax1 : D → Option D
  | .n .lst _ xs => (match intsOf xs with
    | some ns => ns.max?.map D.int
    | none => none)
  | _ => none
section
variable {K : PySem.W.Frag} {cA : Str → Addr}
end
def gMax2 : D → D → Option D := gII (fun _ _ => true) fun i j => if j > i then j else i
def gMin2 : D → D → Option D := gII (fun _ _ => true) fun i j => if j < i then j else i
section
variable {X : Cx} {cA : Str → Addr} {W : WX} {fa fb : Env → Out D} {a b : Expr} {p pos : Pos}
end
end DL
namespace DL
open PySem L2
section
variable {K : PySem.W.Frag} {cA : Str → Addr}
end
section
variable {X : Cx} {cA : Str → Addr} {W : WX} {src src1 : Env → Out (List D)} {ts ts1 : List Nat} {g g1 : D → Env → Option Env} {t t1 : Env → Out Bool} {f : Env → Out D} {iter iter1 tg tgB elt : Expr} {ifs ifs1 : List Expr} {scope : Scope} {own : List (Str × Nat)} {vs1 : List Nat} {pos : Pos}
end
end DL
namespace DL
open PySem L2 PyProof.Rows
section
variable {X : Cx} {cA : Str → Addr} {C : Str} {f : Addr} {fd : FuncData} {ps : List Str} {k : Nat} {kio : Option Nat} {F : List D → FR}
end
end DL
namespace HN2
open PySem PySem.Spec PyProof.Rows PySem.SeqAt
section
variable {prog : Program} {w : World} {A : Around} {E : Value → Shared → Prop} {s : Shared} {K : PySem.W.Frag} {x y C f : Addr} {ox : Obj} {od : Option Obj}
end
end HN2
namespace DL
open PySem L2 PyProof.Rows
section
variable {X : Cx} {cA : Str → Addr} {C : Str} {f : Addr} {ps : List Str} {k : Nat} {kio : Option Nat} {F : List D → FR}
structure NoNe (K : PySem.W.Frag) (C : Addr) : Prop where
  ne : PySem.W.findIn K (.ref C) "__ne__" = some (some (.builtin "object.__ne__"))
  ob : PySem.W.mroIn K C (.type "object") = some true
end
end DL
namespace DL
open PySem L2 PyProof.Rows
structure ClsX (K : PySem.W.Frag) (C : Addr) : Prop where
  ne : PySem.W.findIn K (.ref C) "__ne__" = some (some (.builtin "object.__ne__"))
  ob : PySem.W.mroIn K C (.type "object") = some true
  kc : PySem.W.findIn K (.ref C) "__class__" = some (some (.builtin "object.__class__"))
  kg : PySem.W.specialIn K (.builtin "object.__class__") "__get__" = some (some (.builtin "getset_descriptor.__get__"))
  kt : PySem.W.takesIn K (.builtin "object.__class__") = some true
def clsXB (K : PySem.W.Frag) (C : Addr) : Bool := decide (PySem.W.findIn K (.ref C) "__ne__" = some (some (.builtin "object.__ne__"))) && (decide (PySem.W.mroIn K C (.type "object") = some true) &&
  (decide (PySem.W.findIn K (.ref C) "__class__" = some (some (.builtin "object.__class__"))) && (decide (PySem.W.specialIn K (.builtin "object.__class__") "__get__" = some (some (.builtin "getset_descriptor.__get__"))) && decide (PySem.W.takesIn K (.builtin "object.__class__") = some true))))
theorem clsXB_ok {K : PySem.W.Frag} {C : Addr} (h : clsXB K C = true) : ClsX K C := by
  unfold clsXB at h
  simp only [Bool.and_eq_true, decide_eq_true_eq] at h
  exact ⟨h.1, h.2.1, h.2.2.1, h.2.2.2.1, h.2.2.2.2⟩
def obsX (fa : List He.Fa) (fn : List He.DefD) (xs : List Str) (K : PySem.W.Frag) : He.AlD × Bool := (He.obsD fa fn K, xs.all fun x => clsXB K (He.ga K x))
def SaysX (fa : List He.Fa) (fn : List He.DefD) (xs : List Str) (K : PySem.W.Frag) : Prop := obsX fa fn xs K = (He.valD fn, true)
theorem SaysX.d {fa : List He.Fa} {fn : List He.DefD} {xs : List Str} {K : PySem.W.Frag} (h : SaysX fa fn xs K) : He.SaysD fa fn K := congrArg (fun z : He.AlD × Bool => z.1) h
theorem SaysX.x {fa : List He.Fa} {fn : List He.DefD} {xs : List Str} {K : PySem.W.Frag} (h : SaysX fa fn xs K) (i : Nat) {x : Str} (e : xs[i]? = some x) : ClsX K (He.ga K x) := by
  have c : (xs.all fun x => clsXB K (He.ga K x)) = true := congrArg (fun z : He.AlD × Bool => z.2) h
  exact clsXB_ok (List.all_eq_true.mp c x (List.mem_of_getElem? e))
section
variable {X : Cx} {cA : Str → Addr} {W : WX} {fa fb : Env → Out D} {a b : Expr} {pos : Pos}
end
end DL
namespace DL
open PySem L2 PyProof.Rows NdefX
structure SupC (P : Program) (K : PySem.W.Frag) (C fI : Addr) (f : Str) : Prop where
  ox : OexC K C
  keep : PySem.W.keepIn K (.ref C) = true
  iC : PySem.W.findIn K (.ref C) "__init__" = some (some (.ref fI))
  tI : PySem.W.typeIn K (.ref fI) = some (.type "function")
  noF : PySem.W.findIn K (.ref C) f = some none
  cl : ∃ cd, PySem.W.clsIn K C = some cd ∧ PySem.W.mroIn K C (.ref C) = some true
  su : PySem.W.ks_superIn K C C "__init__" = some (some (.builtin "ValueError.__init__"))
  ve : PySem.W.subIn K (.ref C) (.type "ValueError") = some true
  op : PySem.W.nsIn K cStatics "thirdparty.any" = some none
  top : (P.main.scope.names.lookup ("super" : Str)).isSome = false
structure SupF (P : Program) (K : PySem.W.Frag) (C fI : Addr) (fd : FuncData) (F : NF) : Prop where
  ex : ∃ (oc : Value) (od : Option Addr) (doc pm ctv : Value) (osl : Array (Option Value)), fd = F.fd doc pm ctv ∧ K.lookup fI = some ⟨oc, od, .func fd, osl⟩
  cd : PySem.W.codeIn K (.ref F.c) F.qual = true
  file : ∃ ccl cdd vs ccs file tf, K.lookup F.c = some ⟨ccl, cdd, .fields vs, ccs⟩ ∧ vs[2]? = some (.str file tf) ∧ ((P.main.file : Str) == file) = true
  cell : ∃ cc cl cld csl, F.cl = [(("__class__" : Str), cc)] ∧ K.lookup cc = some ⟨cl, cld, .cell (some (.ref C)), csl⟩
section
variable {P : Program} {w : World} {K : PySem.W.Frag} {mg : Str → Option Value} {base : Heap} {C fI : Addr} {f p : Str} {fd : FuncData} {F : NF}
abbrev scx (P : Program) (w : World) (K : PySem.W.Frag) (mg : Str → Option Value) (base : Heap) (p : Str) (F : NF) (fI : Addr) (A : Around) (outer : List PySem.Env) (s : Shared) (H : Hp) (E : XK) : Cx := ncx (L2.CX P w) P w K mg base ["self", p, "__class__"] F fI A outer s H E
def spSup (K : PySem.W.Frag) (C : Addr) (f : Str) (ok : V → Bool) : Sp := fun vs H Q E => vs.length = 2 ∧ ∃ a x, vs = [.ref a, x] ∧ ok x = true ∧ H a = some (exo a C none) ∧ ∀ dx, H dx = none → dx ≠ a → Q .non (upd (upd H dx (exd dx [(f, x)])) a (exo a C (some dx)))
theorem call_mw {X : Cx} {pins : List (Addr × Obj)} {σ : L2.St} {H : Hp} {s : Shared} {a u C : Addr} {us : List Value} {A : Around} {E : Value → Shared → Prop} {Q : Value → Shared → Prop} (T : OexC X.K C) (I : Inv X pins σ H s) (e : H a = some (exo a C none)) (hu : s.heap.get? u = some (PySem.W.kxs_mw "ValueError.__init__" a))
    (hl : us.length ≤ sizeLine) (h : ∀ s', Inv X pins σ H s' → Q .none s') : wpAny (model X.prog X.w) A (call (.ref u) us) Q E s := by
  obtain ⟨nm, q, N, bs, bm, sn, sub, ab, col, dd, k0, k1, k2, k3, k5, hC, hbm⟩ := T.cls
  obtain ⟨t1, ho⟩ := exo_at I.hok e
  have hC' := I.kIn _ _ hC
  obtain ⟨hp, g, d, t, os⟩ := s
  have FB := PySem.F.excBase_ValueError
  refine wpAny_call (codeAny_of_tree ?_)
  show wpAny _ A.in1 (callAny (.ref u) ⟨us, []⟩) _ _ _
  simp only [callAny]
  refine wpAny_bind (wpAny_load hu ?_)
  simp only [PySem.W.kxs_mw, show (Value.type "method-wrapper" == Value.type "method" || Value.type "method-wrapper" == Value.type "builtin_function_or_method" || Value.type "method-wrapper" == Value.type "method-wrapper") = true by decide, if_true]
  refine PySem.W.KFB.if_so (by decide) ?_
  refine wpAny_bind (PySem.W.check_bound_init FB.toExcCallFacts hC' ho rfl ?_)
  refine wpAny_bind (wpAny_pure (wpAny_pure ?_))
  refine ⟨plainId_quiet FB.init.plain _, codeAny_builtin FB.initEntry ?_⟩
  refine PySem.W.exc_init_tree (cls := .ref C) (t0 := t1) (dv := none) (c2 := .none) (c3 := .none) (b4 := .bool false) ho hl fun h' k hx _ => ?_
  have J := I.write (t' := t) (x := a) (e := a) (o := exo a C none) (by rw [e]; exact True.intro) (.inl rfl) k ⟨_, hx⟩ (exo_ok hx)
  have eu : upd H a (exo a C none) = H := by
    funext b
    by_cases hb : b = a
    · rw [hb, upd_same, e]
    · rw [upd_ne hb]
  rw [eu] at J
  exact h _ J
theorem sup_stmt {A : Around} {outer : List PySem.Env} {s0 : Shared} {H0 : Hp} {E0 : XK} (T : SupC P K C fI f) (TF : SupF P K C fI fd F) (hself : (F.params.posonlyargs ++ F.params.args).head?.map (·.arg) = some "self") (hsl : F.scope.names.lookup ("self" : Str) = some .local)
    (hsu : F.scope.names.lookup ("super" : Str) = some .globalImplicit) (hcl : F.scope.names.lookup ("__class__" : Str) = some .free) (hmg : mg "super" = none)
    {e : Expr} {te : TE} {p0 p1 p2 p3 p4 : Pos} (he : PE (scx P w K mg base p F fI A outer s0 H0 E0) e te) {s : Shared} {σ : L2.St} {H : Hp} {a : Addr} {Q : Flow → Shared → Prop}
    (I : Inv (scx P w K mg base p F fI A outer s0 H0 E0) [] σ H s) (hσ : σ[0]? = some (some (.ref a))) (ha : H a = some (exo a C none)) (hte : te σ H fun v H1 => H1 = H ∧ [v].length = 1)
    (hk : F.scope.kind = .function) (hst : starEach [e] (envF F fI s0.heap.objs.size) = (false, eval e (envF F fI s0.heap.objs.size)) :: starEach [] (envF F fI s0.heap.objs.size))
    (hsw : swapsWith (.Call (.Attribute (.Call (.Name "super" p0) [] [] p1) "__init__" p2) [e] [] p3) none p4.line (envF F fI s0.heap.objs.size) = pure false)
    (hev : ∃ pl : Sem Bool, eval (.Call (.Attribute (.Call (.Name "super" p0) [] [] p1) "__init__" p2) [e] [] p3) (envF F fI s0.heap.objs.size) = (do
      let ov ← attributeBase (.Call (.Name "super" p0) [] [] p1) "__init__" (envF F fI s0.heap.objs.size) (eval (.Call (.Name "super" p0) [] [] p1) (envF F fI s0.heap.objs.size))
      standAt p2.atName
      let (f, first) ← holding [ov] (getMethod ov "__init__" pl)
      callWith p3 f first (backTo p3 (starEach [e] (envF F fI s0.heap.objs.size))) []))
    (h : ∀ s', Inv (scx P w K mg base p F fI A outer s0 H0 E0) [] σ H s' → Q .next s') :
    _root_.PySem.wpAt (model P w) (A.deeper (envF F fI s0.heap.objs.size)) (.func F.body (envF F fI s0.heap.objs.size)) (exec (.Expr (.Call (.Attribute (.Call (.Name "super" p0) [] [] p1) "__init__" p2) [e] [] p3) p4) (envF F fI s0.heap.objs.size)) Q
      (scx P w K mg base p F fI A outer s0 H0 E0).xe s := by
  obtain ⟨oc, od, doc, pm, ctv, osl, rfl, lk⟩ := TF.ex
  obtain ⟨ccl, cdd, vs, ccs, file, tf, lc, hvs, hfile⟩ := TF.file
  obtain ⟨cc, ccl2, cld, csl, ecl, lcell⟩ := TF.cell
  obtain ⟨cd, hcd, hmro⟩ := T.cl
  obtain ⟨pl, hev⟩ := hev
  have KX : K.In s.heap := I.kIn
  have hat : (("__init__" : Str) == ("__class__" : Str)) = false := by decide +kernel
  obtain ⟨ar, hp, har⟩ : ∃ ar, (F.params.posonlyargs ++ F.params.args).head? = some ar ∧ ar.arg = "self" := by
    cases q : (F.params.posonlyargs ++ F.params.args).head? with
    | none => rw [q] at hself; cases hself
    | some ar => rw [q] at hself; exact ⟨ar, rfl, Option.some.inj hself⟩
  obtain ⟨m, hn, hl⟩ := I.loc
  obtain ⟨u, ru, lu⟩ := hl 0 "self" (.ref a) rfl hσ (.inl hsl)
  obtain rfl : u = Value.ref a := ru
  have hm : m "self" = some (.ref a) := by
    rcases lu with ⟨_, e⟩ | ⟨q, _⟩
    · exact e
    · have q : F.scope.names.lookup ("self" : Str) = some .cell ∨ F.scope.names.lookup ("self" : Str) = some .free := q
      rw [hsl] at q
      rcases q with q | q <;> cases q
  obtain ⟨t1, hoa⟩ := exo_at I.hok ha
  have IA : PySem.W.InstAt s.heap a { cls := .ref C, dict := none, data := .fields #[.ref t1, .none, .none, .none, .bool false, .none] } C none := ⟨hoa, rfl, rfl, trivial⟩
  obtain ⟨oD, hD1, hD2⟩ : ∃ oD, s.heap.get? C = some oD ∧ oD.data = .cls cd := by
    unfold PySem.W.clsIn at hcd
    split at hcd
    · rename_i c d cd' sl ho
      cases hcd
      exact ⟨_, KX _ _ ho, rfl⟩
    · cases hcd
  refine ks_wpAt_Expr_any (env := envF F fI s0.heap.objs.size) (ks_wpAt_MethodCall (pl := pl) ?_ hev) (by unfold interactive; rw [hk]; rfl) hsw
  refine ks_wpAt_super_base (env := envF F fI s0.heap.objs.size) (f := fI) (cc := F.c) hsu hcl hat rfl (KX _ _ lk) rfl hp rfl (KX _ _ lc) rfl hvs hfile T.top ?_
  rw [har]
  obtain ⟨mb, b1, b2⟩ := I.mod.blt
  refine PySem.W.ks_loadName_global hk hsu (Calls.loadGlobal_builtin (env := envF F fI s0.heap.objs.size) (I.mod.glob.keeps I.bk) hmg (b1.keeps I.bk) ((b2 _ (by decide)).trans (by decide +kernel)) ⟨rfl, ?_⟩)
  refine wpAny_loadName_free hk hcl (by show List.lookup _ F.cl = some cc; rw [ecl]; rfl) ⟨_, KX _ _ lcell, rfl⟩ ?_
  refine wpAny_loadName_local hk hsl hn hm ?_
  obtain ⟨hh, g, d, t, os⟩ := s
  refine ks_wpAny_isType_cls hD1 hD2 ⟨rfl, ?_⟩
  refine ks_wpAny_call_super hD1 hD2 hoa rfl (fun c e => by cases e) (PySem.W.looks_mroIn KX hmro) (fun h' e1 k1 => ?_)
  have I1 : Inv (scx P w K mg base p F fI A outer s0 H0 E0) [] σ H ⟨h', g, d, t, os⟩ := I.kept (t' := t) (h' := h') k1
  have KX1 : K.In h' := I1.kIn
  obtain ⟨t2, hoa1⟩ := exo_at I1.hok ha
  have IA1 : PySem.W.InstAt h' a { cls := .ref C, dict := none, data := .fields #[.ref t2, .none, .none, .none, .bool false, .none] } C none := ⟨hoa1, rfl, rfl, trivial⟩
  have hI : PySem.W.Looks (model P w) h' (isInstance (.ref a) (.type "ValueError")) true := IA1.type.andThen (PySem.W.looks_subIn KX1 T.ve)
  have hsu2 : PySem.W.alongIn K "__init__" ((cd.mro.dropWhile (· != .ref C)).drop 1) = some (some (.builtin "ValueError.__init__")) := by
    have z := T.su
    unfold PySem.W.ks_superIn at z
    rw [hcd] at z
    exact z
  refine PySem.W.kxs_getMethod PySem.W.kxs_ValueError e1 (PySem.W.looks_opaque KX1 T.op) (l₀ := cd.mro) ?_ rfl KX1 hsu2 hI (PySem.W.ks_ne KX1 IA1 hcd) (by decide +kernel) ?_
  · exact fun A Q E s k q => wpAny_bind ((PySem.W.looks_clsIn KX1 hcd) A _ E s k (wpAny_pure q))
  have k2 : ∀ b o, h'.get? b = some o → (h'.push (PySem.W.kxs_mw "ValueError.__init__" a)).get? b = some o := fun b o e => Heap.get?_push_of_some _ e
  have hmw : (h'.push (PySem.W.kxs_mw "ValueError.__init__" a)).get? h'.objs.size = some (PySem.W.kxs_mw "ValueError.__init__" a) := Heap.get?_push_at rfl rfl
  have I2 : Inv (scx P w K mg base p F fI A outer s0 H0 E0) [] σ H ⟨h'.push (PySem.W.kxs_mw "ValueError.__init__" a), g, d, t + 1, os⟩ := I1.kept (t' := t + 1) k2
  have I3 : Inv (scx P w K mg base p F fI A outer s0 H0 E0) [(h'.objs.size, PySem.W.kxs_mw "ValueError.__init__" a)] σ H ⟨h'.push (PySem.W.kxs_mw "ValueError.__init__" a), g, d, t + 1, os⟩ := I2.pins_of fun q hq => by
    obtain rfl : q = (h'.objs.size, PySem.W.kxs_mw "ValueError.__init__" a) := by simpa using hq
    exact ⟨hmw, I1.hok.fresh (Nat.le_refl _), fun z => absurd I1.lt (by rw [← z]; exact Nat.lt_irrefl _), I1.nofs (Nat.le_refl _), fun v z => by cases z⟩
  refine PySem.W.kxs_callWith (i := "ValueError.__init__") (x := a) (by rw [hst]; rfl) ?_
  rw [hst]
  refine Calls.evalArgs_plain ?_
  have hpa : PA (scx P w K mg base p F fI A outer s0 H0 E0) [e] (tCons te tNil) := pa_cons he pa_nil hst
  have hr := hpa.run p3 [(h'.objs.size, PySem.W.kxs_mw "ValueError.__init__" a)] _ σ H (fun vs H1 => H1 = H ∧ vs.length = 1) I3
  rw [show starEach [e] (scx P w K mg base p F fI A outer s0 H0 E0).env = (false, eval e (envF F fI s0.heap.objs.size)) :: starEach [] (envF F fI s0.heap.objs.size) from hst] at hr
  refine wpAny_mono (hr ?_) (fun us s3 ⟨vs', H3, I4, rv, eH, el⟩ => ?_) (fun _ _ z => z)
  · show te σ H fun x H1 => H1 = H ∧ [x].length = 1
    exact hte
  · subst eH
    have pn := I4.pin (h'.objs.size, PySem.W.kxs_mw "ValueError.__init__" a) (List.mem_append_right _ List.mem_cons_self)
    refine ⟨pn.1, ?_⟩
    refine call_mw T.ox I4 ha pn.1 (by show us.length ≤ _; rw [← rv.length, el, sizeLine_eq]; decide) fun s' J => ?_
    exact h s' (J.pins_of (pins' := []) fun q hq => by cases hq)
structure SupW (F : NF) (p f : Str) (e : Expr) : Prop where
  sc : NScope ["self", p, "__class__"] ["self", p] ["__class__"] F.scope
  self_ : (F.params.posonlyargs ++ F.params.args).head?.map (·.arg) = some "self"
  su : F.scope.names.lookup ("super" : Str) = some .globalImplicit
  body : ∃ p0 p1 p2 p3 p4 q1 q2 q3 q4, F.body = [.Expr (.Call (.Attribute (.Call (.Name "super" p0) [] [] p1) "__init__" p2) [e] [] p3) p4, .Assign [.Attribute (.Name "self" q1) f q2] (.Name p q3) q4] ∧
    ∀ fI L : Addr, ∃ pl : Sem Bool, eval (.Call (.Attribute (.Call (.Name "super" p0) [] [] p1) "__init__" p2) [e] [] p3) (envF F fI L) = (do
      let ov ← attributeBase (.Call (.Name "super" p0) [] [] p1) "__init__" (envF F fI L) (eval (.Call (.Name "super" p0) [] [] p1) (envF F fI L))
      standAt p2.atName
      let (f, first) ← holding [ov] (getMethod ov "__init__" pl)
      callWith p3 f first (backTo p3 (starEach [e] (envF F fI L))) [])
  dbg : (p == ("__debug__" : Str)) = false ∧ (p == ("__classdict__" : Str)) = false
  st : ∀ fI L : Addr, starEach [e] (envF F fI L) = (false, eval e (envF F fI L)) :: starEach [] (envF F fI L)
  sw : ∀ (fI L : Addr) (p0 p1 p2 p3 p4 : Pos), swapsWith (.Call (.Attribute (.Call (.Name "super" p0) [] [] p1) "__init__" p2) [e] [] p3) none p4.line (envF F fI L) = pure false
  sw2 : ∀ (fI L : Addr) (q1 q2 q3 q4 : Pos), swapsWith (.Name p q3) (some (.Attribute (.Name "self" q1) f q2)) q4.line (envF F fI L) = pure false
theorem sup_ok {ok : V → Bool} {e : Expr} {te : TE} {k : Nat} (T : SupC P K C fI f) (TF : SupF P K C fI fd F) (Wd : SupW F p f e) (hmg : mg "super" = none)
    (he : ∀ (A : Around) (outer : List PySem.Env) (s0 : Shared) (H0 : Hp) (E0 : XK), PE (scx P w K mg base p F fI A outer s0 H0 E0) e te)
    (hte : ∀ (σ : L2.St) (H : Hp) (x : V), σ[1]? = some (some x) → ok x = true → te σ H fun v H1 => H1 = H ∧ [v].length = 1) :
    FnOk P w K mg base (L2.CX P w) (k + 1) fI fd ["self", p] (spSup K C f ok) := by
  refine ⟨fun vs H Q E h => h.1, fun A outer s H args us vs Q E hr e0 hb r hsp => ?_⟩
  obtain ⟨hl, a, x, rfl, hok, ha, hq⟩ := hsp
  obtain ⟨oc, od, doc, pm, ctv, osl, efd, lk⟩ := TF.ex
  have S := Wd.sc
  have KX : K.In s.heap := e0.mod.kin.keeps fun b o e => (e0.bs b o e).1
  have lim : s.heap.NoLimit := e0.mod.nolimit.keeps fun b o e => (e0.bs b o e).1
  obtain ⟨cc, ccl2, cld, csl, ecl, lcell⟩ := TF.cell
  have CA : CellsAt F.cl ["__class__"] [none] s.heap H := by
    refine ⟨rfl, fun y c e1 => ?_, fun x y c e1 e2 => ?_, fun i y e1 => ?_⟩
    · rw [ecl] at e1
      have ec : c = cc := by
        by_cases hy : (y == ("__class__" : Str)) = true
        · simp only [List.lookup, hy] at e1
          exact (Option.some.inj e1).symm
        · simp only [List.lookup, (Bool.not_eq_true _).mp hy] at e1
          cases e1
      subst ec
      have z := e0.bs _ _ (e0.mod.kin _ _ lcell)
      exact ⟨z.2, _, _, z.1, rfl⟩
    · rw [ecl] at e1 e2
      have one : ∀ {z : Str} {c : Addr}, List.lookup z [(("__class__" : Str), cc)] = some c → z = "__class__" := fun {z c} e => by
        by_cases hy : (z == ("__class__" : Str)) = true
        · exact beq_iff_eq.mp hy
        · simp only [List.lookup, (Bool.not_eq_true _).mp hy] at e
          cases e
      rw [one e1, one e2]
    · have ey : y = "__class__" := by
        cases i with
        | zero => simpa using e1.symm
        | succ i => simp at e1
      subst ey
      refine ⟨cc, by rw [ecl]; rfl, fun v e2 => ?_⟩
      cases i with
      | zero => simp at e2
      | succ i => simp at e1
  have efd' := efd
  subst efd
  refine ks_codeAny_call_defAt (body := F.body) hr.depth (KX _ _ lk) rfl lim (PySem.W.codeRec_of KX TF.cd) rfl hb S.nocell (fun ⟨n, _⟩ hy => S.par n (List.of_mem_zip hy).1) (fun h₁ hns hk₁ => ?_) S.co S.gen S.kind
  have I : Inv (scx P w K mg base p F fI A outer s H E) [] (startF ["self", p, "__class__"] [V.ref a, x] [none]) H { s with heap := h₁, toks := s.toks + ((["self", p] : List Str).zip us).length } := inv_startN S hr.hd e0 (by simp) r CA hns hk₁
  show _root_.PySem.wpAt (model P w) (A.deeper (envF F fI s.heap.objs.size)) (.func F.body (envF F fI s.heap.objs.size)) (execs F.body (envF F fI s.heap.objs.size)) _ _ _
  obtain ⟨p0, p1, p2, p3, p4, q1, q2, q3, q4, hbody, hev⟩ := Wd.body
  have hgo : ∀ (bd : List Stmt), bd = F.body → _root_.PySem.wpAt (model P w) (A.deeper (envF F fI s.heap.objs.size)) (.func F.body (envF F fI s.heap.objs.size)) (execs bd (envF F fI s.heap.objs.size)) (fun f s' => CR (L2.CX P w) outer P w H s Q E (.ok (.ret (match f with | .ret v => v | _ => .none))) s')
      (fun e s' => wpAny (model P w) (A.deeper (envF F fI s.heap.objs.size)) (leaving (envF F fI s.heap.objs.size) e) (fun _ s'' => CR (L2.CX P w) outer P w H s Q E (.error e) s'') (fun e' s'' => CR (L2.CX P w) outer P w H s Q E (.error e') s'') s')
      { s with heap := h₁, toks := s.toks + ((["self", p] : List Str).zip us).length } := by
    intro bd ebd
    rw [hbody] at ebd
    subst ebd
    refine ks_wpAt_execs_cons ?_
    refine sup_stmt T TF Wd.self_ (S.par "self" (by simp)) Wd.su (S.frk "__class__" (by simp)) hmg (he A outer s H E) I rfl ha (hte [some (.ref a), some x, none] H x rfl hok) S.kind (Wd.st _ _) (Wd.sw _ _ _ _ _ _ _) (hev _ _) (fun s' I' => ?_)
    show _root_.PySem.wpAt _ _ _ (execs [_] _) _ _ _
    refine wpAt_of_wpAny ?_
    have hs2 : PSs (scx P w K mg base p F fI A outer s H E) [.Assign [.Attribute (.Name "self" q1) f q2] (.Name p q3) q4] _ := pss_one (ps_ost (pe_var (i := 0) rfl (.inl (S.par "self" (by simp)))) (pe_var (i := 1) rfl (.inl (S.par p (by simp))) Wd.dbg.1 Wd.dbg.2) (Wd.sw2 _ _ _ _ _ _))
    refine wpAny_mono (hs2.run [] s' _ H { nx := fun _ H' => Q .non H', rt := Q } I' ?_) (fun fl s2 hs => ?_) (fun e s2 hs => hs)
    · exact ⟨x, rfl, .ref a, rfl, a, C, rfl, T.ox, T.noF, .inl ⟨ha, fun dx n ne => hq dx n ne⟩⟩
    · have fin : ∀ {σ' : L2.St} {H' : Hp} {v : V} {u : Value}, Inv (scx P w K mg base p F fI A outer s H E) [] σ' H' s2 → L2.RelV v u → Q v H' → CE outer P w H s Q u s2 :=
        fun {σ' H' v u} J rv q => ⟨v, H', J.os, J.bare, J.base, J.hok, rv, q⟩
      cases fl with
      | ret u =>
        obtain ⟨v, σ', H', J, rv, q⟩ := hs
        exact fin J rv q
      | next =>
        obtain ⟨σ', H', J, q⟩ := hs
        exact fin (v := V.non) (u := Value.none) J rfl q
      | brk =>
        obtain ⟨_, _, _, q⟩ := hs
        exact False.elim q
      | cont =>
        obtain ⟨_, _, _, q⟩ := hs
        exact False.elim q
  exact hgo F.body rfl
end
end DL
namespace DL
open PySem L2 PyProof.Rows
def dRaise (C : Str) : Env → Fl := fun ρ => .ex ⟨C, []⟩ ρ
def stRaise (C f : Str) (ok : At → Bool) (d : D) (ρ : Env) : Fl := match d with
  | .a x => if ok x = true then .ex ⟨C, [(f, x)]⟩ ρ else .st
  | _ => .st
structure ExP (K : PySem.W.Frag) (C : Addr) : Prop where
  exc : PySem.W.excIn K C He.veBase "ValueError.__new__" = true
  keep : PySem.W.keepIn K (.ref C) = true
  sub : PySem.W.subIn K (.ref C) (.type "BaseException") = some true
  typ : PySem.W.typeIn K (.ref C) = some (.type "type")
structure ExS (P : Program) (w : World) (K : PySem.W.Frag) (mg : Str → Option Value) (base : Heap) (C : Addr) (f : Str) (ok : At → Bool) : Prop where
  ex : ∃ (fI : Addr) (fd : FuncData) (p : Str) (okV : V → Bool), SupC P K C fI f ∧ FnOk P w K mg base (L2.CX P w) 1 fI fd ["self", p] (spSup K C f okV) ∧ Binds K fd ["self", p] [] ∧ ∀ x : At, ok x = true → okV x.v = true
section
variable {X : Cx} {cA : Str → Addr} {W : WX} {k : Option Nat} {fa : Env → Out D} {e : Expr} {pos pos' : Pos}
theorem new_xd {K : PySem.W.Frag} {H : Hp} {Z : ZS} {ρ : Env} {σ : L2.St} {L : FP} {dx : Addr} {fs : List (Str × V)} (w : Wf H Z L) (r : RelL K cA H Z ρ σ L) (hn : H dx = none) :
    RelL K cA (upd H dx (.xd fs)) (ZU Z [dx]) ρ σ L ∧ Wf (upd H dx (.xd fs)) (ZU Z [dx]) L ∧ Fr H Z L (upd H dx (.xd fs)) (ZU Z [dx]) L := by
  refine ⟨relL_mono zu_sub (fun a o _ e => keep_new hn a o e) r, ?_, ?_⟩
  · exact (wf_new w hn (relL_trk r) : Wf (upd H dx (.xd fs)) Z ([dx] ++ L)).freeze fun a m => ⟨.xd fs, by
      have : a = dx := by simpa using m
      subst this; exact upd_same⟩
  · exact Fr.freeze (fp := [dx]) (M := L) (fr_new hn)
theorem ds_raiseV {C f : Str} {ok : At → Bool} {p : Pos} (hc : X.calm = true) (tk : Takes X W) (q : ExS X.prog X.w X.K X.mg X.base (cA C) f ok) (hr : Room 2 X.A) (hg : Gl X C) (gC : X.mg C = some (.ref (cA C))) (he : DE X cA W fa e)
    (hdb : (C == ("__debug__" : Str)) = false := by kernel_rfl) (hst : starEach [e] X.env = (false, eval e X.env) :: starEach [] X.env := by kernel_rfl) :
    DS X cA W k (dBind fa (stRaise C f ok)) (.Raise (some (.Call (.Name C p) [e] [] pos)) none pos') := by
  obtain ⟨fI, fd, pn, okV, T, F1, hb, hok⟩ := q.ex
  refine ds_of (ps_raise hc tk (pmk_oex (k := 1) T.ox T.iC T.tI F1 hr hb .nil passL hg gC (pa_cons he pa_nil hst) hdb hst (by rfl))) fun D σ H Z L ρ r w p => ?_
  show TEof X.K cA W fa σ H fun v H1 => _
  refine bind_te r w p fun d ρ1 v H1 Z1 L1 fp hd r1 w1 h1 F1 p => ?_
  unfold stRaise at p
  split at p
  · rename_i x
    split at p
    · rename_i hx
      obtain ⟨e1, e2⟩ := h1
      subst e1 e2
      refine ⟨by simp, fun a ha => ⟨rfl, a, x.v, rfl, hok x hx, upd_same, fun dx hdx hne => ⟨rfl, dx, [(f, x.v)], upd_same, ?_, ?_, ?_⟩⟩⟩
      · rw [upd_ne hne, upd_same]
      · rw [upd_ne hne] at hdx
        exact hdx
      · rw [upd_ne hne] at hdx
        have eH : upd (del (upd (upd (upd H1 a (exo a (cA C) none)) dx (exd dx [(f, x.v)])) a (exo a (cA C) (some dx))) a) dx (.xd [(f, x.v)]) = upd H1 dx (.xd [(f, x.v)]) := by
          funext b
          by_cases h1 : b = dx
          · subst h1; rw [upd_same, upd_same]
          · rw [upd_ne h1, upd_ne h1]
            by_cases h2 : b = a
            · subst h2; rw [del_same, ha]
            · rw [del_ne h2, upd_ne h2, upd_ne h1, upd_ne h2]
        rw [eH]
        obtain ⟨r2, w2, F2⟩ := new_xd (fs := [(f, x.v)]) w1 r1 hdx
        exact p _ _ _ _ _ _ r2 w2 ⟨rfl, .inr ⟨by simp, dx, rfl, .inr (by simp), upd_same⟩⟩ (F1.trans F2) Pin.refl
    · exact p.elim
  · exact p.elim
end
inductive HdX (X : Cx) : List ExceptHandler → List (Value × (Addr → Value → Option Addr → TS)) → Prop
  | nil : HdX X [] []
  | cons {x : Str} {c : Value} {ts : Addr → Value → Option Addr → TS} {b₀ : Stmt} {suite : List Stmt} {np pos' : Pos} {hds : List ExceptHandler} {l : List (Value × (Addr → Value → Option Addr → TS))} (hc : Names X x c)
      (hsu : ∀ (a : Addr) (oe : Obj) (cls : Value) (d : Option Addr) (pn : List (Addr × Obj)), Zc cls d oe → (∃ vs, oe.data = .fields vs) → PSs (X.suite a ((a, oe) :: pn)) (b₀ :: suite) (ts a cls d)) (r : HdX X hds l) :
      HdX X (.ExceptHandler (some (.Name x np)) none (b₀ :: suite) pos' :: hds) ((c, ts) :: l)
  | as {x n : Str} {i : Nat} {c : Value} {ts t0 : Addr → Value → Option Addr → TS} {b₀ : Stmt} {suite : List Stmt} {np pos' : Pos} {hds : List ExceptHandler} {l : List (Value × (Addr → Value → Option Addr → TS))} (hc : Names X x c) (hi : X.N[i]? = some n) (hln : X.env.kindOf n = some .local)
      (hsu : ∀ (a : Addr) (oe : Obj) (cls : Value) (d : Option Addr) (pn : List (Addr × Obj)), Zc cls d oe → (∃ vs, oe.data = .fields vs) → PSs (X.suite a ((a, oe) :: pn)) (b₀ :: suite) (t0 a cls d))
      (imp : ∀ a cls d D σ H, ts a cls d D σ H → t0 a cls d { nx := fun σ' H' => D.nx (σ'.set i none) H', rt := D.rt, bk := fun σ' H' => D.bk (σ'.set i none) H', ct := fun σ' H' => D.ct (σ'.set i none) H' } (σ.set i (some (.ref a))) H) (r : HdX X hds l) :
      HdX X (.ExceptHandler (some (.Name x np)) (some n) (b₀ :: suite) pos' :: hds) ((c, ts) :: l)
section
variable {X : Cx} {body : List Stmt} {h₀ : ExceptHandler} {hds : List ExceptHandler} {l : List (Value × (Addr → Value → Option Addr → TS))} {pos : Pos} {tb : WX → TS} {Wout : WX}
theorem ps_try_x (hs : X.stack = X.env :: X.outer) (hf : X.env.frame = some X.env.locals) (hN : X.N.Nodup) (tk : Takes X Wout)
    (hb : ∀ (W : WX) (pn : List (Addr × Obj)) (xe : Value → Shared → Prop), Takes (X.tr pn xe) W → PassesOwn (model X.prog X.w) X.A X.env xe → PSs (X.tr pn xe) body (tb W))
    (hh : HdX X (h₀ :: hds) l) : PS X (.Try body (h₀ :: hds) [] [] pos) (fun D σ H => tb (wMany X.K Wout D l) D σ H) := by
  refine ⟨fun pins s σ H D I h => ?_⟩
  have ok := I.ok
  have hfr : X.A.frames = some (X.env :: X.outer) := by rw [ok.frames, hs]
  refine wpAny_Try_except ?_
  refine wpAny_mono ((hb (wMany X.K Wout D l) (X.pn ++ pins) (fun e s₁ => wpAny (model X.prog X.w) X.A (noteFrame e X.env) (fun _ s₂ => wpAny (model X.prog X.w) X.A (setFlight e none) (fun _ s₃ =>
    wpAny (model X.prog X.w) X.A (handleBy e X.env (h₀ :: hds)) (SP X pins D) X.xe s₃) X.xe s₂) X.xe s₁) (fun u s' xx => ?_) PassesOwn.looking).run [] s σ H D (I.toTry _) h) (fun f s1 hsp => ?_) (fun e s1 he => he)
  · -- the catch
    obtain ⟨a, B, sI, pins', σ', H', cls, d, rfl, J', nb, up, sky, na, os, ag, w⟩ := xx
    have J : Inv X pins σ' H' sI := J'.ofTry ok
    have sky' : Sky B (X.env :: X.outer) a (Zc cls d) X.env.locals s'.heap := by rw [← hs]; exact sky
    show wpAny (model X.prog X.w) X.A (noteFrame (.ref a) X.env) _ _ _
    refine Sky.land Zc.steady hfr hf sky' fun h3 fl3 up3 => ?_
    have J3 : Inv X pins σ' H' { s' with heap := h3 } := J.landed nb fl3.1 (up.trans up3) os ag
    obtain ⟨oe3, vs3, he3, hz3, hd3⟩ := fl3.there
    have notFr : ∀ {h : Heap} {o : Obj} {vs : Array Value}, h.FunFrames B (X.env :: X.outer) → h.get? a = some o → o.data = .fields vs → a ∉ frs (X.env :: X.outer) := fun {h o vs} ff e dd hm => by
      obtain ⟨_, o', e', hnf⟩ := ff.mem hm
      rw [e] at e'; cases e'
      exact hnf _ dd
    have nfr := notFr fl3.2.2.1 he3 hd3
    have nL : a ≠ X.env.locals := fun z => nfr (List.mem_filterMap.mpr ⟨X.env, List.mem_cons_self, by rw [hf, z]⟩)
    have nF : a ∉ X.fs := fun hm => by
      obtain ⟨e, he, q⟩ := List.mem_filterMap.mp hm
      exact nfr (List.mem_filterMap.mpr ⟨e, List.mem_cons_of_mem _ he, q⟩)
    have S3 := J3.suite he3 hd3 na nL nF
    have go : ∀ {hds' : List ExceptHandler} {l' : List (Value × (Addr → Value → Option Addr → TS))}, HdX X hds' l' → wMany X.K Wout D l' cls d σ' H' →
        wpAny (model X.prog X.w) X.A (handleBy (.ref a) X.env hds') (SP X pins D) X.xe { s' with heap := h3 } := by
      intro hds' l' hk
      induction hk with
      | nil =>
        intro w
        refine wpAny_handleBy_nil ?_
        obtain ⟨k1, k2, k3, oe, vs, T, oT, ts', he, hz, hd, h1, hr⟩ := id fl3
        unfold PySem.passOn
        refine wpAny_bind (wpAny_field he hd h1 ?_)
        rw [if_neg (show ¬ ((Value.ref T == Value.none) = true) from by simp)]
        have fin : wpAny (model X.prog X.w) X.A (setFlight (.ref a) X.env.frame) (fun _ s4 => wpAny (model X.prog X.w) X.A (throw (.ref a) : Sem Flow) (SP X pins D) X.xe s4) X.xe { s' with heap := h3 } := by
          rw [hf]
          refine HandSPX.setFlight_upZ fl3 fun h4 hh4 up4 => wpAny_throw (tk _ _ ?_)
          exact ⟨a, B, sI, pins, σ', H', cls, d, rfl, J, nb, (up.trans up3).trans up4, .inr (.inr (by rw [hs]; exact hh4)), na, os, ag, w⟩
        first
          | exact wpAny_bind (wpAny_pure (wpAny_bind fin))
          | exact wpAny_bind fin
      | @cons x c ts b₀ suite np pos' hds2 l2 hc hsu r ih =>
        intro w
        obtain ⟨b, hb1, hyes, hno⟩ := w
        refine wpAny_handleBy_cons (codeAny_handlers_test ?_) (by intro q; cases q)
        have LT : PySem.W.Looks (model X.prog X.w) h3 (typeOf (.ref a)) cls := fun A Q E s k q => wpAny_typeOf_ref (k _ _ he3) (by rw [hz3.1]; exact q)
        have LM := PySem.W.exm_one (M := model X.prog X.w) (J3.kIn) LT hb1
        have test : ∀ {Q : Value → Shared → Prop} {E : Value → Shared → Prop}, Q c { s' with heap := h3 } → wpAny (model X.prog X.w) (X.A.mark (some (.ref a))) (eval (.Name x np) X.env) Q E { s' with heap := h3 } := fun {Q E} q => by
          obtain ⟨hg, hdbg, hm | ⟨hm, hv, hnn⟩⟩ := hc
          · exact ld_glob (X := X.suite a ((a, oe3) :: (X.pn ++ pins))) S3 hg hm q hdbg
          · exact ld_blt (X := X.suite a ((a, oe3) :: (X.pn ++ pins))) S3 hg hm hv q hnn hdbg
        refine test (LM.here ?_)
        cases b with
        | true =>
          refine codeAny_handlers_suite ?_
          refine HandSPX.lands_againZ fl3 fun h4 fl4 up4 => ?_
          have J4 : Inv X pins σ' H' { s' with heap := h4 } := J.landed nb fl4.1 ((up.trans up3).trans up4) os ag
          obtain ⟨oe4, vs4, he4, hz4, hd4⟩ := fl4.there
          have S4 := J4.suite he4 hd4 na nL nF
          refine wpAny_mono ((hsu a oe4 cls d (X.pn ++ pins) hz4 ⟨_, hd4⟩).run [] _ _ H' _ S4 (hyes rfl a na)) (fun f s6 hsp => ?_) (fun _ _ z => False.elim z)
          cases f with
          | next =>
            obtain ⟨σ6, H6, S6, q6⟩ := hsp
            exact ⟨_, _, S6.unsuite ok, q6⟩
          | brk =>
            obtain ⟨σ6, H6, S6, q6⟩ := hsp
            exact ⟨_, _, S6.unsuite ok, q6⟩
          | cont =>
            obtain ⟨σ6, H6, S6, q6⟩ := hsp
            exact ⟨_, _, S6.unsuite ok, q6⟩
          | ret u =>
            obtain ⟨v6, σ6, H6, S6, r6, q6⟩ := hsp
            exact ⟨_, _, _, S6.unsuite ok, r6, q6⟩
        | false =>
          show wpAny _ X.A (handleBy (.ref a) X.env hds2) _ _ _
          exact ih (hno rfl)
      | @as x n i c ts t0 b₀ suite np pos' hds2 l2 hc hi hln hsu imp r ih =>
        intro w
        obtain ⟨b, hb1, hyes, hno⟩ := w
        have hloc : Loc X.env.scope n := .inl hln
        refine wpAny_handleBy_cons (codeAny_handlers_test ?_) (by intro q; cases q)
        have LT : PySem.W.Looks (model X.prog X.w) h3 (typeOf (.ref a)) cls := fun A Q E s k q => wpAny_typeOf_ref (k _ _ he3) (by rw [hz3.1]; exact q)
        have LM := PySem.W.exm_one (M := model X.prog X.w) (J3.kIn) LT hb1
        have test : ∀ {Q : Value → Shared → Prop} {E : Value → Shared → Prop}, Q c { s' with heap := h3 } → wpAny (model X.prog X.w) (X.A.mark (some (.ref a))) (eval (.Name x np) X.env) Q E { s' with heap := h3 } := fun {Q E} q => by
          obtain ⟨hg, hdbg, hm | ⟨hm, hv, hnn⟩⟩ := hc
          · exact ld_glob (X := X.suite a ((a, oe3) :: (X.pn ++ pins))) S3 hg hm q hdbg
          · exact ld_blt (X := X.suite a ((a, oe3) :: (X.pn ++ pins))) S3 hg hm hv q hnn hdbg
        refine test (LM.here ?_)
        cases b with
        | true =>
          refine codeAny_handlers_suite_as ?_
          refine HandSPX.lands_againZ fl3 fun h4 fl4 up4 => ?_
          have J4 : Inv X pins σ' H' { s' with heap := h4 } := J.landed nb fl4.1 ((up.trans up3).trans up4) os ag
          obtain ⟨oe4, vs4, he4, hz4, hd4⟩ := fl4.there
          have S4 := J4.suite he4 hd4 na nL nF
          refine store_ok (X := X.suite a ((a, oe4) :: (X.pn ++ pins))) (v := .ref a) S4 hN hi hloc rfl (fun s5 S5 => ?_) (.inr hln)
          refine wpAny_mono ((hsu a oe4 cls d (X.pn ++ pins) hz4 ⟨_, hd4⟩).run [] s5 _ H' _ S5 (imp _ _ _ _ _ _ (hyes rfl a na))) (fun f s6 hsp => ?_) (fun _ _ z => False.elim z)
          have end_ : ∀ {σ6 : L2.St} {H6 : Hp} {Q : Shared → Prop}, Inv (X.suite a ((a, oe4) :: (X.pn ++ pins))) [] σ6 H6 s6 → (∀ s7, Inv X pins (σ6.set i none) H6 s7 → Q s7) →
              wpAny (model X.prog X.w) X.A (do bindName X.env n .none; unbindBehindTheSuite X.env n pos') (fun _ s7 => Q s7) X.xe s6 := fun {σ6 H6 Q} S6 hq => gone_ok (S6.unsuite ok) hN hi hln hq
          cases f with
          | next =>
            obtain ⟨σ6, H6, S6, q6⟩ := hsp
            exact end_ S6 fun s7 J7 => ⟨_, _, J7, q6⟩
          | brk =>
            obtain ⟨σ6, H6, S6, q6⟩ := hsp
            exact end_ S6 fun s7 J7 => ⟨_, _, J7, q6⟩
          | cont =>
            obtain ⟨σ6, H6, S6, q6⟩ := hsp
            exact end_ S6 fun s7 J7 => ⟨_, _, J7, q6⟩
          | ret u =>
            obtain ⟨v6, σ6, H6, S6, r6, q6⟩ := hsp
            exact end_ S6 fun s7 J7 => ⟨_, _, _, J7, r6, q6⟩
        | false =>
          show wpAny _ X.A (handleBy (.ref a) X.env hds2) _ _ _
          exact ih (hno rfl)
    exact go hh w
  · cases f with
    | next =>
      obtain ⟨σ', H', J', q⟩ := hsp
      exact wpAny_execs_nil ⟨σ', H', J'.ofTry ok, q⟩
    | brk =>
      obtain ⟨σ', H', J', q⟩ := hsp
      exact ⟨σ', H', J'.ofTry ok, q⟩
    | cont =>
      obtain ⟨σ', H', J', q⟩ := hsp
      exact ⟨σ', H', J'.ofTry ok, q⟩
    | ret u =>
      obtain ⟨v, σ', H', J', r, q⟩ := hsp
      exact ⟨v, σ', H', J'.ofTry ok, r, q⟩
end
abbrev Hd := Str × List (Str × Bool) × (Exn → Env → Fl)
def noEx : Fl → Fl
  | .ex _ _ => .st
  | r => r
theorem postS_w {K : PySem.W.Frag} {cA : Str → Addr} {W : WX} {k : Option Nat} {σ : L2.St} {H : Hp} {Z : ZS} {L : FP} {T : Ends} {o : Fl} (p : PostS K cA W k σ H Z L T (noEx o)) : PostS K cA WN k σ H Z L T o := by
  cases o <;> first | exact p | exact p.elim
def dCatch : List Hd → Exn → Env → Fl
  | [], e, ρ => .ex e ρ
  | (_, m, h) :: r, e, ρ => match m.lookup e.c with
    | some true => noEx (h e ρ)
    | some false => dCatch r e ρ
    | none => .st
def dTry (b : Env → Fl) (hs : List Hd) : Env → Fl := fun ρ => match b ρ with
  | .ex e ρ1 => dCatch hs e ρ1
  | r => r
section
variable (K : PySem.W.Frag) (cA : Str → Addr)
def tsD (k : Option Nat) (h : Exn → Env → Fl) : Addr → Value → Option Addr → TS := fun a cls d D σ H => ∃ ex Z L ρ, RelL K cA H Z ρ σ L ∧ Wf H Z L ∧ ExR cA H Z ex cls d ∧ PostS K cA WN k σ H Z L D (h ex ρ)
end
def TSE (cA : Str → Addr) (i : Nat) (a : Addr) (cls : Value) (d : Option Addr) (g : Exn → Option At) : TE := fun σ H Q => ∃ ex x Z, Wf H Z [] ∧ σ[i]? = some (some (V.ref a)) ∧ ExR cA H Z ex cls d ∧ g ex = some x ∧ ∀ H' Z', Wf H' Z' [] → Fr H Z [] H' Z' [] → Q x.v H'
def hRet (i : Nat) (g : Exn → Option At) : Exn → Env → Fl := fun ex ρ => match g ex with
  | some x => if i < ρ.length then .rt (.a x) (ρ.set i none) else .st
  | none => .st
def Matches (K : PySem.W.Frag) (cA : Str → Addr) (C : Str) (m : List (Str × Bool)) : Prop := ∀ c b, m.lookup c = some b → PySem.W.exmOne K (.ref (cA c)) (.ref (cA C)) = some b
theorem matches_nil {K : PySem.W.Frag} {cA : Str → Addr} {C : Str} : Matches K cA C [] := fun c b h => by cases h
theorem matches_cons {K : PySem.W.Frag} {cA : Str → Addr} {C x : Str} {b : Bool} {m : List (Str × Bool)} (h : PySem.W.exmOne K (.ref (cA x)) (.ref (cA C)) = some b) (r : Matches K cA C m) : Matches K cA C ((x, b) :: m) := fun c b' e => by
  by_cases hc : (c == x) = true
  · simp only [List.lookup, hc] at e
    cases e
    rw [beq_iff_eq.mp hc]
    exact h
  · simp only [List.lookup, (Bool.not_eq_true _).mp hc] at e
    exact r c b' e
inductive DHs (X : Cx) (cA : Str → Addr) (k : Option Nat) : List ExceptHandler → List Hd → Prop
  | nil : DHs X cA k [] []
  | cons {C : Str} {m : List (Str × Bool)} {f : Env → Fl} {b₀ : Stmt} {suite : List Stmt} {np pos' : Pos} {hds : List ExceptHandler} {l : List Hd} (hc : Names X C (.ref (cA C))) (hm : Matches X.K cA C m)
      (hsu : ∀ (a : Addr) (oe : Obj) (cls : Value) (d : Option Addr) (pn : List (Addr × Obj)), Zc cls d oe → (∃ vs, oe.data = .fields vs) → DSs (X.suite a ((a, oe) :: pn)) cA WN k f (b₀ :: suite)) (r : DHs X cA k hds l) :
      DHs X cA k (.ExceptHandler (some (.Name C np)) none (b₀ :: suite) pos' :: hds) ((C, m, fun _ => f) :: l)
  | as {C n : Str} {i : Nat} {m : List (Str × Bool)} {g : Exn → Option At} {e : Expr} {np pos' rp : Pos} {hds : List ExceptHandler} {l : List Hd} (hc : Names X C (.ref (cA C))) (hm : Matches X.K cA C m) (hi : X.N[i]? = some n) (hln : X.env.kindOf n = some .local)
      (hsu : ∀ (a : Addr) (oe : Obj) (cls : Value) (d : Option Addr) (pn : List (Addr × Obj)), Zc cls d oe → (∃ vs, oe.data = .fields vs) → PE (X.suite a ((a, oe) :: pn)) e (TSE cA i a cls d g)) (r : DHs X cA k hds l) :
      DHs X cA k (.ExceptHandler (some (.Name C np)) (some n) [.Return (some e) rp] pos' :: hds) ((C, m, hRet i g) :: l)
section
variable {X : Cx} {cA : Str → Addr} {k : Option Nat} {W : WX}
theorem DHs.hdx : ∀ {hds : List ExceptHandler} {l : List Hd}, DHs X cA k hds l → HdX X hds (l.map fun q => (.ref (cA q.1), tsD X.K cA k q.2.2))
  | _, _, .nil => .nil
  | _, _, .cons hc hm hsu r => by
    refine .cons hc (fun a oe cls d pn hz hf => PSs.imp (hsu a oe cls d pn hz hf) fun D σ H ⟨ex, Z, L, ρ, r1, w1, x1, p⟩ => ⟨Z, L, ρ, r1, w1, p⟩) r.hdx
  | _, _, .as (i := i) hc hm hi hln hsu r => by
    refine .as (i := i) hc hi hln (fun a oe cls d pn hz hf => pss_one (ps_ret (hsu a oe cls d pn hz hf))) (fun a cls d D σ H ⟨ex, Z, L, ρ, r1, w1, x1, p⟩ => ?_) r.hdx
    dsimp only at p
    unfold hRet at p
    split at p
    · rename_i x hx
      split at p
      · rename_i hil
        rw [← relL_len r1] at hil
        refine ⟨ex, x, Z, wf0 w1, by rw [List.getElem?_set_self hil], x1, hx, fun H' Z' w' F' => ?_⟩
        obtain ⟨r2, w2, F2⟩ := hand0 w1 r1 F' w'
        obtain ⟨L', hs, r3⟩ := relL_none i r2
        exact p _ σ H' Z' L' [] r3 ((w2.less (by simpa using hs)) : Wf H' Z' ([] ++ L')) ⟨rfl, rfl⟩ (F2.less fun y m => by simp at m ⊢; exact hs.subset m) Pin.refl
      · exact p.elim
    · exact p.elim
theorem ds_try {b : Env → Fl} {hs : List Hd} {body : List Stmt} {h₀ : ExceptHandler} {hds : List ExceptHandler} {pos : Pos} (hst : X.stack = X.env :: X.outer) (hf : X.env.frame = some X.env.locals) (hN : X.N.Nodup) (tk : Takes X W)
    (hb : ∀ (W' : WX) (pn : List (Addr × Obj)) (xe : Value → Shared → Prop), Takes (X.tr pn xe) W' → PassesOwn (model X.prog X.w) X.A X.env xe → DSs (X.tr pn xe) cA W' k b body) (hh : DHs X cA k (h₀ :: hds) hs) :
    DS X cA W k (dTry b hs) (.Try body (h₀ :: hds) [] [] pos) := by
  refine ds_of (ps_try_x (tb := fun W' => TSof X.K cA W' k b) hst hf hN tk hb hh.hdx) fun D σ H Z L ρ r w p => ?_
  refine ⟨Z, L, ρ, r, w, ?_⟩
  unfold dTry at p
  cases hbr : b ρ with
  | st => rw [hbr] at p; exact p
  | nx ρ1 => rw [hbr] at p; exact p
  | bk ρ1 => rw [hbr] at p; exact p
  | ct ρ1 => rw [hbr] at p; exact p
  | rt d ρ1 => rw [hbr] at p; exact p
  | ex e ρ1 =>
    rw [hbr] at p
    dsimp only at p
    intro cls d σ1 H1 Z1 L1 r1 w1 x1 F1 q1
    have p1 := postS_tr F1 q1 p
    clear p hb hbr
    generalize hE : h₀ :: hds = E at hh
    clear hE
    induction hh with
    | nil => exact p1 cls d σ1 H1 Z1 L1 r1 w1 x1 Fr.refl Pin.refl
    | cons hc hm hsu r ih =>
      unfold dCatch at p1
      split at p1
      · rename_i hl
        exact ⟨true, by rw [x1.1]; exact hm _ _ hl, fun _ a ha => ⟨e, Z1, L1, ρ1, r1, w1, x1, postS_w p1⟩, fun z => (nomatch z)⟩
      · rename_i hl
        exact ⟨false, by rw [x1.1]; exact hm _ _ hl, fun z => (nomatch z), fun _ => ih p1⟩
      · exact p1.elim
    | as hc hm hi hln hsu r ih =>
      unfold dCatch at p1
      split at p1
      · rename_i hl
        exact ⟨true, by rw [x1.1]; exact hm _ _ hl, fun _ a ha => ⟨e, Z1, L1, ρ1, r1, w1, x1, postS_w p1⟩, fun z => (nomatch z)⟩
      · rename_i hl
        exact ⟨false, by rw [x1.1]; exact hm _ _ hl, fun z => (nomatch z), fun _ => ih p1⟩
      · exact p1.elim
end
end DL
namespace DL
open PySem L2 PyProof.Rows NdefX
theorem exR_keep {cA : Str → Addr} {H H' : Hp} {Z Z' : ZS} {ex : Exn} {cls : Value} {d : Option Addr} (x : ExR cA H Z ex cls d) (F : Fr H Z [] H' Z' []) : ExR cA H' Z' ex cls d := by
  refine ⟨x.1, ?_⟩
  rcases x.2 with h | ⟨hne, dd, h1, h2, h3⟩
  · exact .inl h
  · exact .inr ⟨hne, dd, h1, F.zm _ h2, F.keep _ _ h3 (by simp)⟩
def sC (y : At) : Exn → Option At := fun _ => some y
def sF (C f : Str) : Exn → Option At := fun ex => if ex.c = C then ex.fs.lookup f else none
def sOp (g2 : D → D → Option D) (g h : Exn → Option At) : Exn → Option At := fun ex => match g ex with
  | some x => (match h ex with
    | some y => (match g2 (.a x) (.a y) with
      | some (.a z) => some z
      | _ => none)
    | none => none)
  | none => none
def sAnd (g h : Exn → Option At) : Exn → Option At := fun ex => match g ex with
  | some (.bl true) => h ex
  | some (.bl false) => some (.bl false)
  | _ => none
def sNot (g : Exn → Option At) : Exn → Option At := fun ex => match g ex with
  | some (.bl b) => some (.bl (!b))
  | _ => none
section
variable {X : Cx} {cA : Str → Addr} {i : Nat} {a : Addr} {cls : Value} {d : Option Addr} {g h : Exn → Option At} {e e2 : Expr} {pos : Pos}
theorem se_str {s : Str} {j} : PE X (.Constant (.str s) j pos) (TSE cA i a cls d (sC (.str s))) := PE.imp pe_str fun σ H Q ⟨ex, x, Z, w, _, _, e, q⟩ => by
  cases e; exact q H Z w Fr.refl
theorem lookup_v (f : Str) : ∀ l : List (Str × At), (l.map fun p => (p.1, p.2.v)).lookup f = (l.lookup f).map At.v
  | [] => rfl
  | (x, y) :: l => by
    by_cases h : (f == x) = true
    · simp [List.lookup, h]
    · simp only [List.map_cons, List.lookup, (Bool.not_eq_true _).mp h]
      exact lookup_v f l
theorem se_fld {C f : Str} {oe : Obj} {pn : List (Addr × Obj)} (T : XfC X.K (cA C)) (hno : PySem.W.findIn X.K (.ref (cA C)) f = some none) (hz : Zc cls d oe) (hf : ∃ vs, oe.data = .fields vs) (he : PE (X.suite a ((a, oe) :: pn)) e (tVar i)) (hb : attributeBase e f X.env (eval e X.env) = eval e X.env := by kernel_rfl) :
    PE (X.suite a ((a, oe) :: pn)) (.Attribute e f pos) (TSE cA i a cls d (sF C f)) := PE.imp (pe_xf T hno hz hf he hb) fun σ H Q ⟨ex, x, Z, w, hσ, hx, e, q⟩ => by
  unfold sF at e
  split at e
  · rename_i hc
    refine ⟨_, hσ, rfl, by rw [hx.1, hc], ?_⟩
    rcases hx.2 with hf | ⟨hne, dd, h1, h2, h3⟩
    · rw [hf.1] at e; cases e
    · exact ⟨dd, _, x.v, h1, h3, by rw [lookup_v, e]; rfl, q H Z w Fr.refl⟩
  · cases e
theorem se_op {op : CmpOp} {g2 : D → D → Option D} (C : CR2 X cA op g2) (ha : PE X e (TSE cA i a cls d g)) (hb : PE X e2 (TSE cA i a cls d h)) : PE X (.Compare e [op] [e2] pos) (TSE cA i a cls d (sOp g2 g h)) := by
  obtain ⟨r, ho, V, h1, h2⟩ := C.ex
  refine PE.imp (pe_cmpR ho ha hb (nomark e2 h1 h2)) fun σ H Q ⟨ex, z, Z, w, hσ, hx, eq, q⟩ => ?_
  unfold sOp at eq
  split at eq
  · rename_i x ex1
    split at eq
    · rename_i y ey1
      split at eq
      · rename_i z' hz
        cases eq
        refine ⟨ex, x, Z, w, hσ, hx, ex1, fun H1 Z1 w1 F1 => ⟨ex, y, Z1, w1, hσ, exR_keep hx F1, ey1, fun H2 Z2 w2 F2 => ?_⟩⟩
        refine V.run (d1 := .a x) (d2 := .a y) (f1 := []) (f2 := []) (Z := Z2) ⟨rfl, rfl⟩ ⟨rfl, rfl⟩ w2 hz fun v H3 Z3 fp h3 w3 F3 => ?_
        obtain ⟨e3, e4⟩ := h3
        subst e3 e4
        exact q H3 Z3 w3 ((F1.trans F2).trans F3)
      · cases eq
    · cases eq
  · cases eq
theorem se_not (ha : PE X e (TSE cA i a cls d g)) : PE X (.UnaryOp .Not e pos) (TSE cA i a cls d (sNot g)) :=
  PE.imp (pe_not ha) fun σ H Q ⟨ex, z, Z, w, hσ, hx, eq, q⟩ => by
    unfold sNot at eq
    split at eq
    · rename_i b e1
      cases eq
      exact ⟨ex, .bl b, Z, w, hσ, hx, e1, fun H1 Z1 w1 F1 => ⟨b, rfl, q H1 Z1 w1 F1⟩⟩
    · cases eq
end
theorem cr_eqA {X : Cx} {cA : Str → Addr} : CR2 X cA .Eq gEqA := ⟨_, op_eq, vop_eqA, by decide, by decide⟩
abbrev FnC : Type := Option (Str × Str × Arguments × FuncBody × Scope × Addr × Addr)
def fnC (K : PySem.W.Frag) (p : Str × Option Str) : FnC := match K.lookup (He.fAd K p) with
  | some ⟨_, _, .func fd, _⟩ => some (fd.name, fd.qualname, fd.params, fd.body, fd.scope, fd.globals, fd.builtins)
  | _ => none
def oexB (K : PySem.W.Frag) (C : Addr) : Bool := (match K.lookup C with
  | some ⟨.type "type", _, .cls cd, sl⟩ => (match cd.mro, sl.toList with
    | .ref C' :: bm, [_, _, _, _, some (.builtin n), _] => C' == C && (n == "ValueError.__new__" && (!cd.hasDel && (cd.hasDict && PySem.HandSPX.refsVE bm)))
    | _, _ => false)
  | _ => false) && (decide (PySem.W.findIn K (.ref C) "__setattr__" = some (some (.builtin "object.__setattr__"))) && (decide (PySem.W.subIn K (.ref C) (.type "BaseException") = some true) && (decide (PySem.W.typeIn K (.ref C) = some (.type "type")) && PySem.W.keepIn K (.ref C))))
theorem oexB_ok {K : PySem.W.Frag} {C : Addr} (h : oexB K C = true) : OexC K C := by
  unfold oexB at h
  rw [Bool.and_eq_true] at h
  obtain ⟨h0, h⟩ := h
  simp only [Bool.and_eq_true, decide_eq_true_eq] at h
  obtain ⟨h1, h2, h3, h4⟩ := h
  refine ⟨?_, h1, h2, h3, h4⟩
  split at h0
  · rename_i dd cd sl ho
    split at h0
    · rename_i C' bm k0 k1 k2 k3 n k5 hm hs
      simp only [Bool.and_eq_true, beq_iff_eq, Bool.not_eq_true'] at h0
      obtain ⟨rfl, rfl, hdel, hdict, hve⟩ := h0
      obtain ⟨nm, bs, mro, ns, qn, hd, sn, sub, ab, col, del⟩ := cd
      dsimp only at hm hdel hdict
      subst hm hdel hdict
      have hsl : sl = #[k0, k1, k2, k3, some (.builtin "ValueError.__new__"), k5] := by
        obtain ⟨l⟩ := sl
        simp only at hs
        rw [hs]
      subst hsl
      exact ⟨nm, qn, ns, bs, bm, sn, sub, ab, col, dd, k0, k1, k2, k3, k5, ho, hve⟩
    · cases h0
  · cases h0
def supB (file : Str) (K : PySem.W.Frag) (C fI : Addr) (f : Str) : Bool := oexB K C && (decide (PySem.W.findIn K (.ref C) "__init__" = some (some (.ref fI))) && (decide (PySem.W.typeIn K (.ref fI) = some (.type "function")) && (decide (PySem.W.findIn K (.ref C) f = some none) &&
  ((PySem.W.clsIn K C).isSome && (decide (PySem.W.mroIn K C (.ref C) = some true) && (decide (PySem.W.ks_superIn K C C "__init__" = some (some (.builtin "ValueError.__init__"))) && (decide (PySem.W.subIn K (.ref C) (.type "ValueError") = some true) &&
  (decide (PySem.W.nsIn K cStatics "thirdparty.any" = some none) && (match K.lookup fI with
    | some ⟨_, _, .func fd, _⟩ => (match fd.defaults, fd.kwdefaults, fd.annotations, fd.code, fd.closure with
      | .none, .none, none, .ref c, [(x, cc)] => PySem.W.codeIn K (.ref c) fd.qualname && (decide (x = "__class__") && ((match K.lookup cc with
        | some ⟨_, _, .cell (some (.ref D)), _⟩ => D == C
        | _ => false) && (match K.lookup c with
        | some ⟨_, _, .fields vs, _⟩ => (match (vs[2]? : Option Value) with
          | some (Value.str z _) => file == z
          | _ => false)
        | _ => false)))
      | _, _, _, _, _ => false)
    | _ => false)))))))))
theorem supB_ok {P : Program} {file : Str} {K : PySem.W.Frag} {C : Addr} {f : Str} {p : Str × Option Str} {name qual : Str} {params : Arguments} {body : List Stmt} {scope : Scope} (h : supB file K C (He.fAd K p) f = true) (e : fnC K p = some (name, qual, params, .stmts body, scope, mainGlobals, builtinsNs))
    (hfile : P.main.file = file) (htop : (P.main.scope.names.lookup ("super" : Str)).isSome = false) :
    ∃ fd cl c, SupC P K C (He.fAd K p) f ∧ SupF P K C (He.fAd K p) fd ⟨name, qual, params, body, scope, cl, c⟩ := by
  unfold supB at h
  simp only [Bool.and_eq_true, decide_eq_true_eq] at h
  obtain ⟨h0, h1, h2, h3, h4, h5, h6, h7, h8, h9⟩ := h
  have ox := oexB_ok h0
  obtain ⟨cd, hcd⟩ := Option.isSome_iff_exists.mp h4
  have SC : SupC P K C (He.fAd K p) f := ⟨ox, ox.kC, h1, h2, h3, ⟨cd, hcd, h5⟩, h6, h7, h8, htop⟩
  unfold fnC at e
  cases q : K.lookup (He.fAd K p) with
  | none => rw [q] at h9; cases h9
  | some o =>
    obtain ⟨oc, od, dt, osl⟩ := o
    rw [q] at h9 e
    cases dt with
    | func fd =>
      obtain ⟨n1, n2, n3, n4, n5, n6, n7, n8, n9, n10, n11, n12, n13, n14, n15⟩ := fd
      dsimp only at h9 e
      simp only [Option.some.injEq, Prod.mk.injEq] at e
      obtain ⟨e1, e2, e3, e4, e5, e6, e7⟩ := e
      subst e1 e2 e3 e4 e5 e6 e7
      split at h9
      · rename_i c x cc
        simp only [Bool.and_eq_true, decide_eq_true_eq] at h9
        obtain ⟨k1, rfl, k3, k4⟩ := h9
        refine ⟨_, [("__class__", cc)], c, SC, ⟨oc, od, n10, n11, n14, osl, rfl, q⟩, k1, ?_, ?_⟩
        · split at k4
          · rename_i a1 a2 vs a3 hc
            split at k4
            · rename_i z tf hz
              exact ⟨_, _, _, _, z, tf, hc, hz, by rw [hfile]; exact k4⟩
            · cases k4
          · cases k4
        · split at k3
          · rename_i a1 a2 D a3 hc
            have e := beq_iff_eq.mp k3
            subst e
            exact ⟨cc, _, _, _, rfl, hc⟩
          · cases k3
      · cases h9
    | _ => cases h9
structure ExD where
  cls : Str
  fld : Str
  name : Str
  qual : Str
  params : Arguments
  body : List Stmt
  scope : Scope
def ExD.val (d : ExD) : FnC := some (d.name, d.qual, d.params, .stmts d.body, d.scope, mainGlobals, builtinsNs)
def ExD.ok (file : Str) (K : PySem.W.Frag) (d : ExD) : Bool := supB file K (He.ga K d.cls) (He.fAd K (d.cls, some "__init__")) d.fld
abbrev Fy := PySem.W.Frag → Bool
abbrev AlY := He.AlD × Bool × List FnC
def obsY (file : Str) (fa : List He.Fa) (fn : List He.DefD) (es : List ExD) (ys : List Fy) (K : PySem.W.Frag) : AlY := (He.obsD fa fn K, (ys.all fun y => y K) && es.all fun d => d.ok file K, es.map fun d => fnC K (d.cls, some "__init__"))
def valY (fn : List He.DefD) (es : List ExD) : AlY := (He.valD fn, true, es.map ExD.val)
def frY (g : Addr → Option Obj) (n : Nat) : PySem.W.Frag := He.frG g (cStatics :: He.asD g n)
def obsYG (n : Nat) (file : Str) (fa : List He.Fa) (fn : List He.DefD) (es : List ExD) (ys : List Fy) (g : Addr → Option Obj) : AlY := obsY file fa fn es ys (frY g n)
def SaysY (file : Str) (fa : List He.Fa) (fn : List He.DefD) (es : List ExD) (ys : List Fy) (K : PySem.W.Frag) : Prop := obsY file fa fn es ys K = valY fn es
def hookY (n : Nat) (file : Str) (fa : List He.Fa) (fn : List He.DefD) (es : List ExD) (ys : List Fy) : PySem.W.Hook where
  α := AlY
  obs := fun s => obsYG n file fa fn es ys s.heap.get?
  val := fun _ => valY fn es
  says := fun _ h => ∃ K : PySem.W.Frag, K.In h ∧ SaysY file fa fn es ys K
  of := fun _ _ e => ⟨_, He.frG_in, e⟩
  keeps := fun _ _ _ ⟨K, hK, c⟩ k => ⟨K, PySem.W.Frag.In.keeps hK k, c⟩
theorem obsYG_eq {n : Nat} {file : Str} {fa : List He.Fa} {fn : List He.DefD} {es : List ExD} {ys : List Fy} {g : Addr → Option Obj} {s : Shared} (h : ∀ a, g a = s.heap.get? a) : obsYG n file fa fn es ys g = (hookY n file fa fn es ys).obs s := by
  have e : g = s.heap.get? := funext h
  rw [e] <;> rfl
section
variable {file : Str} {fa : List He.Fa} {fn : List He.DefD} {es : List ExD} {ys : List Fy} {K : PySem.W.Frag}
theorem SaysY.d (h : SaysY file fa fn es ys K) : He.SaysD fa fn K := congrArg (fun z : AlY => z.1) h
theorem SaysY.y (h : SaysY file fa fn es ys K) (i : Nat) {y : Fy} (e : ys[i]? = some y) : y K = true := by
  have c : ((ys.all fun y => y K) && es.all fun d => d.ok file K) = true := congrArg (fun z : AlY => z.2.1) h
  rw [Bool.and_eq_true] at c
  exact List.all_eq_true.mp c.1 y (List.mem_of_getElem? e)
theorem SaysY.e (h : SaysY file fa fn es ys K) (i : Nat) {d : ExD} (e : es[i]? = some d) {P : Program} (hfile : P.main.file = file) (htop : (P.main.scope.names.lookup ("super" : Str)).isSome = false) :
    ∃ fd cl c, SupC P K (He.ga K d.cls) (He.fAd K (d.cls, some "__init__")) d.fld ∧ SupF P K (He.ga K d.cls) (He.fAd K (d.cls, some "__init__")) fd ⟨d.name, d.qual, d.params, d.body, d.scope, cl, c⟩ := by
  have c : ((ys.all fun y => y K) && es.all fun d => d.ok file K) = true := congrArg (fun z : AlY => z.2.1) h
  rw [Bool.and_eq_true] at c
  have c2 := List.all_eq_true.mp c.2 d (List.mem_of_getElem? e)
  have c3 : es.map (fun d => fnC K (d.cls, some "__init__")) = es.map ExD.val := congrArg (fun z : AlY => z.2.2) h
  have e2 : (es.map fun d => fnC K (d.cls, some "__init__"))[i]? = (es.map ExD.val)[i]? := by rw [c3]
  rw [List.getElem?_map, List.getElem?_map, e] at e2
  exact supB_ok c2 (Option.some.inj e2) hfile htop
end
theorem exS_of {P : Program} {w : World} {K : PySem.W.Frag} {mg : Str → Option Value} {base : Heap} {C fI : Addr} {f p : Str} {ok : At → Bool} {okV : V → Bool} {fd : FuncData} {F : NF} {e : Expr} {te : TE} (T : SupC P K C fI f) (TF : SupF P K C fI fd F) (Wd : SupW F p f e) (hmg : mg "super" = none)
    (he : ∀ (A : Around) (outer : List PySem.Env) (s0 : Shared) (H0 : Hp) (E0 : XK), PE (scx P w K mg base p F fI A outer s0 H0 E0) e te)
    (hte : ∀ (σ : L2.St) (H : Hp) (x : V), σ[1]? = some (some x) → okV x = true → te σ H fun v H1 => H1 = H ∧ [v].length = 1)
    (hb : ∀ (doc pm ctv : Value) (us : List Value), us.length = 2 → bindArgs (F.fd doc pm ctv) ⟨us, []⟩ = pure ((["self", p] : List Str).zip us)) (hok : ∀ x : At, ok x = true → okV x.v = true) : ExS P w K mg base C f ok := by
  obtain ⟨oc, od, doc, pm, ctv, osl, efd, lk⟩ := TF.ex
  refine ⟨fI, fd, p, okV, T, sup_ok T TF Wd hmg he hte, ?_, hok⟩
  subst efd
  exact Binds.all fun us hl => hb doc pm ctv us hl
end DL
namespace DL
open PySem L2 PyProof.Rows NdefX
def supBody (e : Expr) (p f : Str) (p0 p1 p2 p3 p4 q1 q2 q3 q4 : Pos) : List Stmt := [.Expr (.Call (.Attribute (.Call (.Name "super" p0) [] [] p1) "__init__" p2) [e] [] p3) p4, .Assign [.Attribute (.Name "self" q1) f q2] (.Name p q3) q4]
def sup1 (p f : Str) : List Stmt → Bool
  | [.Expr (.Call (.Attribute (.Call (.Name a0 _) [] [] _) a1 ap) [.BinOp (.Constant (.str t) _ _) .Add (.Name a2 _) _] [] cp) _, .Assign [.Attribute (.Name a3 _) a4 _] (.Name a5 _) _] => a0 == "super" && (a1 == "__init__" && (a2 == p && (a3 == "self" && (a4 == f && (a5 == p && (ap.endLine == cp.line && decide (t.length ≤ 1000)))))))
  | _ => false
theorem sup1_ok {p f : Str} {b : List Stmt} (h : sup1 p f b = true) : ∃ t j r1 r2 r3 p0 p1 p2 p3 p4 q1 q2 q3 q4, b = supBody (.BinOp (.Constant (.str t) j r1) .Add (.Name p r2) r3) p f p0 p1 p2 p3 p4 q1 q2 q3 q4 ∧ (p2.endLine == p3.line) = true ∧ t.length ≤ 1000 := by
  unfold sup1 at h
  split at h
  · simp only [Bool.and_eq_true, decide_eq_true_eq] at h
    obtain ⟨h1, h2, h3, h4, h5, h6, h7, h8⟩ := h
    have h1 := beq_iff_eq.mp h1
    have h2 := beq_iff_eq.mp h2
    have h3 := beq_iff_eq.mp h3
    have h4 := beq_iff_eq.mp h4
    have h5 := beq_iff_eq.mp h5
    have h6 := beq_iff_eq.mp h6
    subst h1 h2 h3 h4 h5 h6
    exact ⟨_, _, _, _, _, _, _, _, _, _, _, _, _, _, rfl, h7, h8⟩
  · cases h
def okStr : At → Bool
  | .str s => decide (s.length ≤ 1000)
  | _ => false
def okStrV : V → Bool
  | .str s => decide (s.length ≤ 1000)
  | _ => false
theorem sup_ev {o : Expr} {e : Expr} {env : PySem.Env} {p2 p3 : Pos} (hq : (p2.endLine == p3.line) = true) (h1 : (methodCallForm 1 (backTo p3 (starEach [e] env)) []) = true) (h2 : backToKw p3 (keywordEach [] env) = []) : ∃ pl : Sem Bool, eval (.Call (.Attribute o "__init__" p2) [e] [] p3) env = (do
      let ov ← attributeBase o "__init__" env (eval o env)
      standAt p2.atName
      let (f, first) ← holding [ov] (getMethod ov "__init__" pl)
      callWith p3 f first (backTo p3 (starEach [e] env)) []) := by
  refine ⟨(do return (← importBound o env).getD true), ?_⟩
  have e0 : eval (.Call (.Attribute o "__init__" p2) [e] [] p3) env = (do
    let ov ← attributeBase o "__init__" env (eval o env)
    standAt p2.atName
    methodCall o "__init__" p2 p3 env ov 1 (backTo p3 (starEach [e] env)) (backToKw p3 (keywordEach [] env))) := rfl
  rw [e0, h2]
  unfold methodCall calleeOf methodCallPos
  rw [h1, hq]
  simp
theorem supW_of {F : NF} {p f : Str} {e : Expr} {p0 p1 p2 p3 p4 q1 q2 q3 q4 : Pos} (hsc : nscB ["self", p, "__class__"] ["self", p] ["__class__"] F.scope = true) (hself : (F.params.posonlyargs ++ F.params.args).head?.map (·.arg) = some "self") (hsu : F.scope.names.lookup ("super" : Str) = some .globalImplicit)
    (hd : (p == ("__debug__" : Str)) = false ∧ (p == ("__classdict__" : Str)) = false) (hb : F.body = supBody e p f p0 p1 p2 p3 p4 q1 q2 q3 q4) (st : ∀ fI L : Addr, starEach [e] (envF F fI L) = (false, eval e (envF F fI L)) :: starEach [] (envF F fI L))
    (hl : (p2.endLine == p3.line) = true) (ev : ∀ fI L : Addr, (p2.endLine == p3.line) = true → ∃ pl : Sem Bool, eval (.Call (.Attribute (.Call (.Name "super" p0) [] [] p1) "__init__" p2) [e] [] p3) (envF F fI L) = (do
      let ov ← attributeBase (.Call (.Name "super" p0) [] [] p1) "__init__" (envF F fI L) (eval (.Call (.Name "super" p0) [] [] p1) (envF F fI L))
      standAt p2.atName
      let (f, first) ← holding [ov] (getMethod ov "__init__" pl)
      callWith p3 f first (backTo p3 (starEach [e] (envF F fI L))) [])) : SupW F p f e where
  sc := nscope_by hsc
  self_ := hself
  su := hsu
  body := ⟨p0, p1, p2, p3, p4, q1, q2, q3, q4, hb, fun fI L => ev fI L hl⟩
  dbg := hd
  st := st
  sw := fun fI L p0 p1 p2 p3 p4 => by rfl
  sw2 := fun fI L q1 q2 q3 q4 => by rfl
section
variable {P : Program} {w : World} {K : PySem.W.Frag} {mg : Str → Option Value} {base : Heap} {C fI : Addr} {f p : Str} {fd : FuncData} {F : NF}
theorem exS_str (T : SupC P K C fI f) (TF : SupF P K C fI fd F) (hmg : mg "super" = none) (hbody : sup1 p f F.body = true) (hsc : nscB ["self", p, "__class__"] ["self", p] ["__class__"] F.scope = true) (hself : (F.params.posonlyargs ++ F.params.args).head?.map (·.arg) = some "self") (hsu : F.scope.names.lookup ("super" : Str) = some .globalImplicit)
    (hd : (p == ("__debug__" : Str)) = false ∧ (p == ("__classdict__" : Str)) = false)
    (hb : ∀ (doc pm ctv : Value) (us : List Value), us.length = 2 → bindArgs (F.fd doc pm ctv) ⟨us, []⟩ = pure ((["self", p] : List Str).zip us)) : ExS P w K mg base C f okStr := by
  obtain ⟨t, j, r1, r2, r3, p0, p1, p2, p3, p4, q1, q2, q3, q4, hbd, hln, hl⟩ := sup1_ok hbody
  have Wd := supW_of hsc hself hsu hd hbd (fun fI L => by rfl) hln (fun fI L hq => sup_ev hq rfl rfl)
  refine exS_of (okV := okStrV) T TF Wd hmg (fun A outer s0 H0 E0 => pe_op op_add_str pe_str (pe_var (i := 1) rfl (.inl (Wd.sc.par p (by simp))) hd.1 hd.2)) (fun σ H x hσ hx => ?_) hb ?_
  · refine ⟨x, hσ, ?_⟩
    unfold okStrV at hx
    split at hx
    · rename_i s
      have hx := of_decide_eq_true hx
      exact ⟨t, s, rfl, rfl, by rw [sizeLine_eq]; omega, rfl, rfl⟩
    · cases hx
  · intro x hx
    cases x <;> first | exact hx | cases hx
end
end DL
namespace DL
open PySem L2 PyProof.Rows
structure KitN (K : PySem.W.Frag) (C : Addr) : Prop where
  kit : ∀ t ∈ tyAll, PySem.W.kitOne K (.type t) (.ref C) = some false
  nf : ∀ t ∈ tyAll, PySem.W.notFirst K C (.type t) = true
def gIsiA (C : Str) : D → Option D := fun d => match d with
  | .n (.ins C' _) _ _ => if C' = C then some (.bl true) else none
  | _ => match tyN d with
    | some _ => some (.bl false)
    | none => none
section
variable {X : Cx} {cA : Str → Addr} {W : WX} {fa fb : Env → Out D} {a b : Expr} {pos : Pos}
end
section
variable {X : Cx} {cA : Str → Addr} {C : Str} {f : Addr} {fd : FuncData} {ps : List Str} {k : Nat} {kio : Option Nat} {F : List D → FR}
end
end DL
namespace DL
open PySem L2 PyProof.Rows
section
variable {X : Cx} {cA : Str → Addr} {W : WX} {C : Str} {f : Addr} {fd : FuncData} {ps : List Str} {k : Nat} {kio : Option Nat} {F : List D → FR} {fa fb : Env → Out D} {a b : Expr} {pos apos : Pos}
def gLenO (C : Str) (F : List D → FR) : D → Option D
  | .n (.ins C1 fs1) false xs1 => if C1 = C ∧ isFL xs1 = true then (match F [.n (.ins C1 fs1) false xs1] with
    | .rt (.a (.int n)) _ => if 0 ≤ n ∧ n < 1000000 then some (.int n) else none
    | _ => none) else none
  | d => gLen d
def firstEq (x : D) : List D → Option Nat
  | [] => none
  | y :: ys => if eqD y x = true then some 0 else (firstEq x ys).map (· + 1)
def gIndexL (l x : D) : Option D := match l with
  | .n .lst _ ys => if pD 60 x = true ∧ pDL 60 ys = true then (firstEq x ys).map fun j => D.int (j : Nat) else none
  | _ => none
def dIndexL (fa fb : Env → Out D) : Env → Out D := fun ρ => match fa ρ with
  | .ok (.n .lst o xs) ρ1 => (match fb ρ1 with
    | .ok d2 ρ2 => (match gIndexL (.n .lst o xs) d2 with
      | some d => .ok d ρ2
      | none => .st)
    | .ex e ρ2 => .ex e ρ2
    | .st => .st)
  | .ok _ _ => .st
  | .ex e ρ1 => .ex e ρ1
  | .st => .st
end
def dRngD (f g : Env → Out D) : Env → Out (List D) := fun ρ => match f ρ with
  | .ok (.a (.int i)) ρ1 => (match g ρ1 with
    | .ok (.a (.int j)) ρ2 => if (-1000000 ≤ i ∧ i ≤ 1000000) ∧ -1000000 ≤ j ∧ j ≤ 1000000 then .ok (intsC i (-1) (i - j).toNat) ρ2 else .st
    | .ok _ _ => .st
    | .ex e ρ2 => .ex e ρ2
    | .st => .st)
  | .ok _ _ => .st
  | .ex e ρ1 => .ex e ρ1
  | .st => .st
section
variable {X : Cx} {cA : Str → Addr} {W : WX} {f g : Env → Out D} {e e2 tg : Expr} {p p2 p3 pos : Pos}
end
end DL
namespace DL
open PySem PySem.Spec PySem.W PyProof.Rows L2
section
variable {prog : Program} {w : World} {A : Around} {E : Value → Shared → Prop} {s : Shared}
end
section
variable {X : Cx} {cA : Str → Addr} {W : WX} {fa : Env → Out D} {a : Expr}
end
end DL
namespace DL
open PySem L2
def tgP (g1 g2 : D → Env → Option Env) (d : D) (ρ : Env) : Option Env := match d with
  | .n .tup _ [a, b] => (match g1 a ρ with
    | some ρ1 => g2 b ρ1
    | none => none)
  | _ => none
theorem But.trans {is js : List Nat} {σ σ1 σ2 : L2.St} (a : But is σ σ1) (b : But js σ1 σ2) : But (is ++ js) σ σ2 :=
  ⟨by rw [b.1, a.1], fun j hj => by
    rw [List.mem_append] at hj
    rw [b.2 j fun m => hj (.inr m), a.2 j fun m => hj (.inl m)]⟩
theorem s_tgP {g1 g2 : D → DL.Env → Option DL.Env} {o : Bool} {a b : D} {ρ : DL.Env} : tgP g1 g2 (.n .tup o [a, b]) ρ = (match g1 a ρ with | some ρ1 => g2 b ρ1 | none => none) := rfl
end DL
namespace DL
open PySem L2 PyProof.Rows
section
variable {X : Cx} {cA : Str → Addr} {W : WX} {fa fb : Env → Out D} {k : Nat} {kio : Option Nat} {f : Addr} {fd : FuncData} {ps : List Str} {F : List D → FR} {mn : Str} {pos : Pos} {a b : Expr} {op : Operator}
end
end DL
namespace DL
open PySem L2 PyProof.Rows
def dBinO (C : Str) (F : List D → FR) (fa fb : Env → Out D) : Env → Out D := fun ρ => match fa ρ with
  | .ok (.n (.ins C1 fs) false xs) ρ1 => if C1 = C ∧ isFL xs = true then (match fb ρ1 with
    | .ok (.n (.ins C2 gs) false ys) ρ2 => if C2 = C ∧ isFL ys = true then (match F [.n (.ins C1 fs) false xs, .n (.ins C2 gs) false ys] with
        | .rt d _ => .ok d ρ2
        | .ex e _ => .ex e ρ2
        | .st => .st) else .st
    | .ok _ _ => .st
    | .ex e ρ2 => .ex e ρ2
    | .st => .st) else .st
  | .ok _ _ => .st
  | .ex e ρ1 => .ex e ρ1
  | .st => .st
section
variable {X : Cx} {cA : Str → Addr} {W : WX} {fa fb : Env → Out D} {k : Nat} {kio : Option Nat} {f : Addr} {fd : FuncData} {ps : List Str} {F : List D → FR} {mn : Str} {pos : Pos} {a b : Expr} {op : Operator}
end
end DL
namespace DL
open PySem L2 PyProof.Rows
def dNegO (C : Str) (F : List D → FR) (fa : Env → Out D) : Env → Out D := fun ρ => match fa ρ with
  | .ok (.n (.ins C1 fs) false xs) ρ1 => if C1 = C ∧ isFL xs = true then (match F [.n (.ins C1 fs) false xs] with
        | .rt d _ => .ok d ρ1
        | .ex e _ => .ex e ρ1
        | .st => .st) else .st
  | .ok _ _ => .st
  | .ex e ρ1 => .ex e ρ1
  | .st => .st
section
variable {X : Cx} {cA : Str → Addr} {W : WX} {fa : Env → Out D} {k : Nat} {kio : Option Nat} {f : Addr} {fd : FuncData} {ps : List Str} {F : List D → FR} {pos : Pos} {a : Expr}
end
end DL
namespace DL
open PySem L2
def isLs : Kd → Bool
  | .lst => true
  | _ => false
def isTI : Kd → Bool
  | .tup => true
  | .ins _ _ => true
  | _ => false
mutual
def okO : D → Bool
  | .a _ => true
  | .n k o xs => (!o || isLs k) && okOL xs
def okOL : List D → Bool
  | [] => true
  | x :: xs => okO x && okOL xs
end
mutual
def noL : D → Bool
  | .a _ => true
  | .n k _ xs => isTI k && noLL xs
def noLL : List D → Bool
  | [] => true
  | x :: xs => noL x && noLL xs
end
section
variable {K : PySem.W.Frag} {cA : Str → Addr} {H H' : Hp} {Z Z' : ZS}
def tmpE (is : List Nat) : Nat → Env → Env
  | _, [] => []
  | k, none :: ρ => none :: tmpE is (k + 1) ρ
  | k, some d :: ρ => (if k ∈ is ∧ okO d = true then some (frz d) else if isF d = true then some d else none) :: tmpE is (k + 1) ρ
end
def dTmp (is : List Nat) (f : Env → Out D) : Env → Out D := fun ρ => match f (tmpE is 0 ρ) with
  | .ok d _ => if noL d = true then .ok d ρ else .st
  | .ex e _ => .ex e ρ
  | .st => .st
section
variable {X : Cx} {cA : Str → Addr} {W : WX} {f : Env → Out D} {e : Expr}
def dMv (i : Nat) : Env → Out D := fun ρ => match ρ[i]? with
  | some (some d) => .ok d (ρ.set i none)
  | _ => .st
def dPop0 (i : Nat) : Env → Out D := fun ρ => match ρ[i]? with
  | some (some (.n .lst true xs)) => (match xs[xs.length - 1]? with
    | some d => .ok d (ρ.set i (some (.lst true (xs.eraseIdx (xs.length - 1)))))
    | none => .st)
  | _ => .st
end
end DL
namespace DL
open PySem L2
def keyOf : At → Option Key
  | .int i => some (.inl i)
  | .str s => some (.inr s)
  | _ => none
def dctAt : List Key → List D → Key → Option D
  | k :: ks, x :: xs, j => if k = j then some x else dctAt ks xs j
  | _, _, _ => none
def hasK (j : Key) : List Key → Bool
  | [] => false
  | k :: ks => decide (k = j) || hasK j ks
def putKs (ks : List Key) (j : Key) : List Key := if hasK j ks = true then ks else ks ++ [j]
def putR : List Key → List D → Key → D → List D
  | k :: ks, x :: xs, j, d => (if k = j then d else x) :: putR ks xs j d
  | _, _, _, _ => []
def putXs (ks : List Key) (xs : List D) (j : Key) (d : D) : List D := if hasK j ks = true then putR ks xs j d else xs ++ [d]
section
variable {K : PySem.W.Frag} {cA : Str → Addr} {H H' : Hp} {Z Z' : ZS}
end
def dDGet (i : Nat) (fb : Env → Out D) : Env → Out D := fun ρ => match ρ[i]? with
  | some (some (.n (.dct _) _ _)) => (match fb ρ with
    | .ok (.a x) ρ1 => (match keyOf x with
      | some k => (match ρ1[i]? with
        | some (some (.n (.dct ks) _ xs)) => (match dctAt ks xs k with
          | some d => if isF d = true then .ok d ρ1 else .st
          | none => .st)
        | _ => .st)
      | none => .st)
    | .ok _ _ => .st
    | .ex e ρ1 => .ex e ρ1
    | .st => .st)
  | _ => .st
def dDIn (neg : Bool) (i : Nat) (fb : Env → Out D) : Env → Out D := fun ρ => match fb ρ with
  | .ok (.a x) ρ1 => (match keyOf x with
    | some k => (match ρ1[i]? with
      | some (some (.n (.dct ks) _ xs)) => if ks.length = xs.length then .ok (.a (.bl (if neg then !hasK k ks else hasK k ks))) ρ1 else .st
      | _ => .st)
    | none => .st)
  | .ok _ _ => .st
  | .ex e ρ1 => .ex e ρ1
  | .st => .st
def dDGet2 (i : Nat) (fb fc : Env → Out D) : Env → Out D := fun ρ => match ρ[i]? with
  | some (some (.n (.dct _) _ _)) => (match fb ρ with
    | .ok (.a x) ρ1 => (match fc ρ1 with
      | .ok c ρ2 => (match keyOf x with
        | some k => (match ρ2[i]? with
          | some (some (.n (.dct ks) _ xs)) => (match dctAt ks xs k with
            | some d => if isF d = true ∧ isF c = true then .ok d ρ2 else .st
            | none => if isF c = true then .ok c ρ2 else .st)
          | _ => .st)
        | none => .st)
      | .ex e ρ2 => .ex e ρ2
      | .st => .st)
    | .ok _ _ => .st
    | .ex e ρ1 => .ex e ρ1
    | .st => .st)
  | _ => .st
def stDPut (i : Nat) (fj : Env → Out D) (d : D) (ρ : Env) : Fl := match ρ[i]? with
  | some (some (.n (.dct _) true _)) => (match fj ρ with
    | .ok (.a x) ρ2 => (match keyOf x with
      | some k => (match ρ2[i]? with
        | some (some (.n (.dct ks) true xs)) => if (isF d = true ∧ isFL xs = true) ∧ xs.length < cap then .nx (ρ2.set i (some (.n (.dct (putKs ks k)) true (putXs ks xs k d)))) else .st
        | _ => .st)
      | none => .st)
    | .ok _ _ => .st
    | .ex e ρ2 => .ex e ρ2
    | .st => .st)
  | _ => .st
def gLenD : D → Option D
  | .n (.dct _) _ xs => some (.a (.int xs.length))
  | _ => none
section
variable {X : Cx} {cA : Str → Addr} {W : WX} {fa fb fc f : Env → Out D} {a b c e o ix : Expr} {pos apos cpos : Pos} {k : Option Nat}
def dDisp1 (fb fc : Env → Out D) : Env → Out D := fun ρ => match fb ρ with
  | .ok (.a x) ρ1 => (match fc ρ1 with
    | .ok d ρ2 => (match keyOf x with
      | some k => if isF d = true then .ok (.n (.dct [k]) true [d]) ρ2 else .st
      | none => .st)
    | .ex e ρ2 => .ex e ρ2
    | .st => .st)
  | .ok _ _ => .st
  | .ex e ρ1 => .ex e ρ1
  | .st => .st
end
end DL
namespace DL
open PySem L2
section
variable {P : Program} {w : World} {K : PySem.W.Frag} {cA : Str → Addr} {mg : Str → Option Value} {base : Heap}
end
end DL
namespace DL
open PySem L2
section
variable {X : Cx} {cA : Str → Addr} {W : WX} {f : Env → Out D}
def dFzB (i : Nat) (f : Env → Fl) : Env → Fl := fun ρ => match ρ[i]? with
  | some (some d) => f (ρ.set i (some (frz d)))
  | _ => f ρ
end
end DL
namespace DL
open PySem L2
section
variable {X : Cx} {cA : Str → Addr} {W : WX} {fb : Env → Out D} {b o : Expr} {pos : Pos}
end
end DL
namespace DL
open PySem L2
theorem ints_are : ∀ {ns : List Int} {us : List Value}, Vals (ns.map V.int) us → PyProof.Rows.IntsAre us ns
  | [], us, h => by
    cases us with
    | nil => exact .nil
    | cons u us => cases h
  | n :: ns, us, h => by
    cases h with
    | cons r h =>
      obtain ⟨t, rfl⟩ := r
      exact .cons n t (ints_are h)
def rSumT (K : PySem.W.Frag) : List V → Hp → VK → Prop := fun vs H Q => ∃ (a : Addr) (ns : List Int), vs = [V.ref a] ∧ SqT K H a (ns.map V.int) ∧ Q (.int ns.sum) H
section
variable {X : Cx}
open PyProof.Rows in
theorem cr_sumT (hc : X.calm = true) : CallR X (.builtin "sum") (rSumT X.K) := by
  intro pins s σ H vs us Q I r h
  obtain ⟨a, ns, rfl, hs, q⟩ := h
  obtain ⟨its, rv, hl, _⟩ := I.tuple hs
  rw [Vals.ref1 r]
  have hi := ints_are rv
  obtain ⟨xs, e⟩ := hi.allInts.items
  have hn : numsOf (intItems xs).toList = ns := by rw [← e]; exact hi.numsOf
  rw [nums_intItems] at hn
  rw [e] at hl
  refine PySem.W.ktm_sumG (I.ok.hd hc) hl fun h' tk t' hk => ?_
  refine ⟨.int _, H, I.kept hk, ⟨t', ?_⟩, q⟩
  rw [preSum_eq, List.take_of_length_le (by simp), hn]
end
section
variable {K : PySem.W.Frag} {cA : Str → Addr}
end
section
variable {X : Cx} {cA : Str → Addr} {W : WX} {fa fb : Env → Out D} {a b : Expr} {p pos : Pos}
end
end DL
namespace DL
open PySem L2
def rSortedIT (K : PySem.W.Frag) : List V → Hp → VK → Prop := fun vs H Q => ∃ (a : Addr) (ns : List Int), vs = [V.ref a] ∧ SqT K H a (ns.map V.int) ∧
  ∀ (ns' : List Int) (p : Addr), ns'.Perm ns → ns'.Pairwise (· ≤ ·) → H p = none → Q (.ref p) (upd H p (.lst (ns'.map V.int)))
section
variable {X : Cx}
open PyProof.Rows SrtO in
theorem cr_sortedIT : CallR X (.builtin "sorted") (rSortedIT X.K) := by
  intro pins s σ H vs us Q I r h
  obtain ⟨a, ns, rfl, hs, q⟩ := h
  obtain ⟨its, rv, hl, hz⟩ := I.tuple hs
  rw [Vals.ref1 r]
  have hi := ints_are rv
  obtain ⟨o, ho, hc, n, hd⟩ := hl
  have hz' : its.length ≤ sizeLine := by rw [← rv.length]; exact hz
  refine Calls.call_function_entry kind_sorted plain_sorted entry_sorted (args_sorted1 _) ?_
  unfold Builtin.«sorted»
  refine wpAny_bind (m := checkCount "sorted" 1 1 _) (wpAny_pure ?_)
  refine wpAny_bind (wpAny_collect_seq a (.inr rfl) ho hc hd (fun h' hk => ?_) (by simpa using hz'))
  have I2 : Inv X pins σ H { s with heap := h' } := I.kept (t' := s.toks) hk
  refine wpAny_bind (wpAny_newList ?_ hz')
  have hoL : (h'.push (seqObj "list" its.toArray 0)).get? h'.objs.size = some (seqObj "list" its.toArray 0) := Heap.get?_push_size _ rfl
  show wpAny _ _ _ _ _ { s with heap := h'.push (seqObj "list" its.toArray 0) }
  refine wpAny_bind (wpAny_holding (wpAny_call_entry slot_list_sort ⟨_, hoL, rfl⟩ entry_list_sort (list_sort_ord swo_int hoL hz' (fun h2 => ints_sortable hi h2) fun out h1 h2 => ⟨_, rfl, ?_⟩) (args_list_sort _)))
  obtain ⟨k1, k2, k3⟩ := ints_out hi h1 h2
  obtain ⟨ep, he'⟩ := sortedHeap_at (out := out.toArray) hoL
  have hlen : ((out.map iv).map V.int).length ≤ sizeLine := by
    rw [List.length_map, k2.length_eq]
    rw [List.length_map] at hz
    exact hz
  refine wpAny_pure ⟨_, rfl, .ref _, upd H h'.objs.size (.lst ((out.map iv).map V.int)), I2.laid (t' := s.toks) (fun b u hb => ?_) (Nat.le_refl _) ⟨hlen, out, ep, vals_of_ints k1, he'⟩, rfl, q _ _ k2 k3 (I2.hok.fresh (Nat.le_refl _))⟩
  have hlt : b < h'.objs.size := Heap.lt_size hb
  exact (sortedHeap_old (Nat.ne_of_lt hlt) (by rw [Heap.size_push]; exact Nat.lt_succ_of_lt hlt)).trans (Heap.get?_push_of_some _ hb)
end
section
variable {K : PySem.W.Frag} {cA : Str → Addr}
end
section
variable {X : Cx} {cA : Str → Addr} {W : WX} {fa fb : Env → Out D} {a b : Expr} {p pos : Pos}
end
section
variable {prog : Program} {w : World} {A : Around} {E : Value → Shared → Prop} {s : Shared}
end
section
variable {K : PySem.W.Frag} {cA : Str → Addr}
end
section
variable {X : Cx} {cA : Str → Addr} {W : WX} {f : Env → Out D} {e : Expr} {p pos tpos : Pos} {elts : List Expr} {kk : Nat}
end
end DL
namespace DL
open PySem L2
def dDGetE (fa fb : Env → Out D) : Env → Out D := fun ρ => match fa ρ with
  | .ok (.n (.dct ks) _ xs) ρ1 => (match fb ρ1 with
    | .ok (.a x) ρ2 => (match keyOf x with
      | some k => (match dctAt ks xs k with
        | some d => if isF d = true then .ok d ρ2 else .st
        | none => .st)
      | none => .st)
    | .ok _ _ => .st
    | .ex e ρ2 => .ex e ρ2
    | .st => .st)
  | .ok _ _ => .st
  | .ex e ρ1 => .ex e ρ1
  | .st => .st
section
variable {X : Cx} {cA : Str → Addr} {W : WX} {fa fb : Env → Out D} {b o : Expr} {pos : Pos}
end
end DL
namespace DL
open PySem L2
def gDivm (d1 d2 : D) : Option D := match d1, d2 with
  | .a (.int i), .a (.int j) => if 0 < j ∧ j < 1073741824 then some (.tup [.int (i / j), .int (i % j)]) else none
  | _, _ => none
section
variable {X : Cx} {cA : Str → Addr} {W : WX} {fa fb : Env → Out D} {a b : Expr} {pos p p2 pos2 : Pos}
end
end DL
namespace DL
open PySem PySem.Spec PySem.W PyProof.Rows L2
def bU : Int := 18446744073709551616
def tupIs : D → Option (List Int)
  | .n .tup _ xs => intsOf xs
  | _ => none
def codeU (x : D) : Int := match tupIs x with
  | some ns => TS.code bU ns
  | none => 0
def okU (d : Nat) (x : D) : Bool := match tupIs x with
  | some ns => decide (ns.length = d) && ns.all fun z => decide (0 ≤ z) && decide (z < bU)
  | none => false
def insU (x : D) : List D → List D
  | [] => [x]
  | y :: ys => if codeU x ≤ codeU y then x :: y :: ys else y :: insU x ys
def sortU : List D → List D
  | [] => []
  | x :: xs => insU x (sortU xs)
def dimU : List D → Nat
  | [] => 1
  | x :: _ => match tupIs x with
    | some ns => ns.length
    | none => 0
def gSortU : D → Option D
  | .n .lst _ xs => if isFL xs = true ∧ xs.length < 64 ∧ 1 ≤ dimU xs ∧ xs.all (okU (dimU xs)) = true then some (.lst true (sortU xs)) else none
  | _ => none
section
variable {K : PySem.W.Frag} {cA : Str → Addr}
end
section
variable {X : Cx} {cA : Str → Addr} {W : WX} {fa fb : Env → Out D} {a b : Expr} {p pos : Pos}
end
end DL
namespace DL
open PySem PySem.Spec PySem.W PyProof.Rows L2 NdefX
section
variable {X : Cx} {cA : Str → Addr} {i : Nat} {a : Addr} {cls : Value} {d : Option Addr} {g h : Exn → Option At} {e e2 : Expr} {pos : Pos}
end
def excCB (K : PySem.W.Frag) (D : Addr) : Bool := decide (PySem.W.findIn K (.ref D) "__getattribute__" = some (some (.builtin "BaseException.__getattribute__"))) && (decide (PySem.W.findIn K (.ref D) "__getattr__" = some none) && (decide (PySem.W.subIn K (.ref D) (.type "BaseException") = some true) && (decide (PySem.W.hasDictIn K D = true) && (decide (PySem.W.findIn K (.ref D) "__class__" = some (some (.builtin "object.__class__"))) && (decide (PySem.W.specialIn K (.builtin "object.__class__") "__get__" = some (some (.builtin "getset_descriptor.__get__"))) && (decide (PySem.W.takesIn K (.builtin "object.__class__") = some true) && decide (PySem.W.mroIn K D (.type "object") = some true)))))))
theorem excCB_ok {K : PySem.W.Frag} {D : Addr} (h : excCB K D = true) : ExcC K D := by
  unfold excCB at h
  simp only [Bool.and_eq_true, decide_eq_true_eq] at h
  obtain ⟨h1, h2, h3, h4, h5, h6, h7, h8⟩ := h
  exact ⟨h1, h2, h3, h4, h5, h6, h7, h8⟩
end DL
namespace DL
open PySem PySem.Spec PySem.W PyProof.Rows L2 NdefX
def sIsX (D : Str) (b : Bool) : Exn → Option At := fun ex => if ex.c = D ∧ ex.fs ≠ [] then some (.bl b) else none
def rIsX (K : PySem.W.Frag) (D a dd : Addr) : List V → Hp → VK → Prop := fun xs H Q => (∃ fs, H dd = some (.xd fs)) ∧
  ((∃ (c : V) (cv : Value) (b : Bool), xs = [.ref a, c] ∧ (∀ u, RelV c u → u = cv) ∧ PySem.W.kitOne K (.ref D) cv = some b ∧ Q (.bl b) H) ∨
   (∃ (p : Addr) (cs : List V) (us : List Value) (b : Bool), xs = [.ref a, .ref p] ∧ H p = some (.tup cs) ∧ (∀ ws, Vals cs ws → ws = us) ∧ PySem.W.kitAny K (.ref D) us = some b ∧ Q (.bl b) H))
theorem call_isX {X : Cx} {a D dd : Addr} {oe : Obj} {pn : List (Addr × Obj)} (C : ExcC X.K D) (hz : Zc (.ref D) (some dd) oe) (hf : ∃ vs, oe.data = .fields vs) : CallR (X.suite a ((a, oe) :: pn)) (.builtin "isinstance") (rIsX X.K D a dd) := by
  intro pins s σ H xs us Q I r h
  obtain ⟨⟨fs, hdd⟩, h⟩ := h
  obtain ⟨hget, _⟩ := I.pin (a, oe) (List.mem_append.mpr (.inl List.mem_cons_self))
  obtain ⟨vs, hv⟩ := hf
  have hx : ObjOk X.prog X.w H s.heap dd (.xd fs) := I.hok dd _ hdd
  obtain ⟨mA, hns, _⟩ := hx
  obtain ⟨od, ho, _⟩ := lookIn_ns hns
  have J : PySem.W.InstAt s.heap a oe D (some od) := ⟨hget, hz.1, by unfold PySem.W.notCls; rw [hv] <;> rfl, by rw [hz.2]; exact ho⟩
  have ic : (PySem.W.clsIn X.K D).isSome = true := by
    obtain ⟨cd, hc, _⟩ := PySem.W.any_some C.hd
    rw [hc]
    rfl
  have Z : PySem.W.KitX X.K (.ref a) (.ref D) (fun h => PySem.W.InstAt h a oe D (some od)) := PySem.W.kitx_exc ic C.hg C.hk C.hs C.ha C.hn C.ht C.hm
  rcases h with ⟨c, cv, b, rfl, hcv, e, q⟩ | ⟨p, cs, its, b, rfl, hp, hcs, e, q⟩
  · cases r with
    | cons rx rr =>
      cases rr with
      | cons rt rr =>
        cases rr
        cases rx
        have ec := hcv _ rt
        subst ec
        exact PySem.W.kia_one Z I.kIn J e (fun z => nomatch z) fun tk => ⟨.bl b, H, I.kept (t' := tk) fun _ _ z => z, rfl, q⟩
  · cases r with
    | cons rx rr =>
      cases rr with
      | cons rt rr =>
        cases rr
        cases rx
        rename_i u2
        cases (show u2 = Value.ref p from rt)
        obtain ⟨_, its2, rv, o, h1, h2, n, h3⟩ := (show ObjOk X.prog X.w H s.heap p (.tup cs) from I.hok p _ hp)
        have e3 := hcs _ rv
        subst e3
        obtain ⟨oc, od2, dt, sl⟩ := o
        simp only at h2 h3
        subst h2 h3
        exact PySem.W.kia_tup Z I.kIn J h1 e (fun z => nomatch z) fun tk => ⟨.bl b, H, I.tok tk, rfl, q⟩
section
variable {X : Cx} {cA : Str → Addr} {i : Nat} {a : Addr} {cls : Value} {d : Option Addr} {e : Expr} {pos : Pos}
theorem exX {D : Str} {b : Bool} {ex : Exn} {x : At} (h : sIsX D b ex = some x) : ex.c = D ∧ ex.fs ≠ [] ∧ x = .bl b := by
  unfold sIsX at h
  split at h
  · rename_i q
    cases h
    exact ⟨q.1, q.2, rfl⟩
  · cases h
theorem se_one {g : Exn → Option At} {op : BoolOp} (ha : PE X e (TSE cA i a cls d g)) : PE X (.BoolOp op [e] pos) (TSE cA i a cls d g) := pe_one ha
theorem se_andN {g h : Exn → Option At} {e2 : Expr} {rest : List Expr} (ha : PE X e (TSE cA i a cls d g)) (hb : PE X (.BoolOp .And (e2 :: rest) pos) (TSE cA i a cls d h)) : PE X (.BoolOp .And (e :: e2 :: rest) pos) (TSE cA i a cls d (sAnd g h)) :=
  PE.imp (pe_and ha hb) fun σ H Q ⟨ex, z, Z, w, hσ, hx, eq, q⟩ => by
    unfold sAnd at eq
    split at eq
    · rename_i e1
      exact ⟨ex, .bl true, Z, w, hσ, hx, e1, fun H1 Z1 w1 F1 => ⟨true, rfl, by
        rw [if_pos rfl]
        exact ⟨ex, z, Z1, w1, hσ, exR_keep hx F1, eq, fun H2 Z2 w2 F2 => q H2 Z2 w2 (F1.trans F2)⟩⟩⟩
    · rename_i e1
      cases eq
      exact ⟨ex, .bl false, Z, w, hσ, hx, e1, fun H1 Z1 w1 F1 => ⟨false, rfl, by
        rw [if_neg Bool.false_ne_true]
        exact q H1 Z1 w1 F1⟩⟩
    · cases eq
theorem se_isX1 {C D : Str} {oe : Obj} {pn : List (Addr × Obj)} {p q : Pos} {b : Bool} (T : ExcC X.K (cA D)) (kit : PySem.W.kitOne X.K (.ref (cA D)) (.ref (cA C)) = some b) (hz : Zc cls d oe) (hf : ∃ vs, oe.data = .fields vs) (hg : Gl X "isinstance") (hm : X.mg "isinstance" = none)
    (hg2 : Gl X C) (hm2 : X.mg C = some (.ref (cA C))) (he : PE (X.suite a ((a, oe) :: pn)) e (tVar i)) (hd2 : (C == ("__debug__" : Str)) = false := by kernel_rfl)
    (hs1 : starEach [e, .Name C q] X.env = (false, eval e X.env) :: starEach [.Name C q] X.env := by kernel_rfl) (hs2 : starEach [.Name C q] X.env = (false, eval (.Name C q) X.env) :: starEach [] X.env := by kernel_rfl) (hpl : (backTo pos (starEach [.Name C q] X.env)).any (·.1) = false := by kernel_rfl) :
    PE (X.suite a ((a, oe) :: pn)) (.Call (.Name "isinstance" p) [e, .Name C q] [] pos) (TSE cA i a cls d (sIsX D b)) := by
  refine ⟨fun pins s σ H Q I w => ?_⟩
  obtain ⟨ex, x, Z, w1, hσ, hx, eq, hq⟩ := w
  obtain ⟨hc, hne, rfl⟩ := exX eq
  have e1 : cls = .ref (cA D) := by rw [hx.1, hc]
  rcases hx.2 with hh | ⟨_, dd, hd, hZ, hH⟩
  · exact absurd hh.1 hne
  · subst e1 hd
    exact (pe_callB (X := X.suite a ((a, oe) :: pn)) (call_isX T hz hf) hg hm PyProof.Rows.boot_isinstance (pa_cons he (pa_cons (pe_glob (v := .ref (cA C)) hg2 hm2 rfl hd2) pa_nil hs2) hs1) (by decide) (by decide) hs1 hpl).run pins s σ H Q I ⟨_, hσ, ⟨_, hH⟩, .inl ⟨.ref (cA C), .ref (cA C), b, rfl, fun u hu => hu, kit, hq H Z w1 Fr.refl⟩⟩
theorem se_isXT {D x : Str} {T : String} {oe : Obj} {pn : List (Addr × Obj)} {p q : Pos} {b : Bool} (TC : ExcC X.K (cA D)) (kit : PySem.W.kitOne X.K (.ref (cA D)) (.type T) = some b) (hz : Zc cls d oe) (hf : ∃ vs, oe.data = .fields vs) (hg : Gl X "isinstance") (hm : X.mg "isinstance" = none)
    (hg2 : Gl X x) (hm2 : X.mg x = none) (hv2 : bootBuiltins x = some (.type T)) (he : PE (X.suite a ((a, oe) :: pn)) e (tVar i)) (hn2 : x ≠ "__name__" := by decide +kernel) (hd2 : (x == ("__debug__" : Str)) = false := by kernel_rfl)
    (hs1 : starEach [e, .Name x q] X.env = (false, eval e X.env) :: starEach [.Name x q] X.env := by kernel_rfl) (hs2 : starEach [.Name x q] X.env = (false, eval (.Name x q) X.env) :: starEach [] X.env := by kernel_rfl) (hpl : (backTo pos (starEach [.Name x q] X.env)).any (·.1) = false := by kernel_rfl) :
    PE (X.suite a ((a, oe) :: pn)) (.Call (.Name "isinstance" p) [e, .Name x q] [] pos) (TSE cA i a cls d (sIsX D b)) := by
  refine ⟨fun pins s σ H Q I w => ?_⟩
  obtain ⟨ex, y, Z, w1, hσ, hx, eq, hq⟩ := w
  obtain ⟨hc, hne, rfl⟩ := exX eq
  have e1 : cls = .ref (cA D) := by rw [hx.1, hc]
  rcases hx.2 with hh | ⟨_, dd, hd, hZ, hH⟩
  · exact absurd hh.1 hne
  · subst e1 hd
    exact (pe_callB (X := X.suite a ((a, oe) :: pn)) (call_isX TC hz hf) hg hm PyProof.Rows.boot_isinstance (pa_cons he (pa_cons (pe_bltn (v := .ty T) hg2 hm2 hv2 rfl hn2 hd2) pa_nil hs2) hs1) (by decide) (by decide) hs1 hpl).run pins s σ H Q I ⟨_, hσ, ⟨_, hH⟩, .inl ⟨.ty T, .type T, b, rfl, fun u hu => hu, kit, hq H Z w1 Fr.refl⟩⟩
theorem se_isX2 {C1 C2 D : Str} {oe : Obj} {pn : List (Addr × Obj)} {p q q2 q3 : Pos} {kk : Nat} {b : Bool} (T : ExcC X.K (cA D)) (kit : PySem.W.kitAny X.K (.ref (cA D)) [.ref (cA C1), .ref (cA C2)] = some b) (hz : Zc cls d oe) (hf : ∃ vs, oe.data = .fields vs) (hg : Gl X "isinstance") (hm : X.mg "isinstance" = none)
    (hg2 : Gl X C1) (hm2 : X.mg C1 = some (.ref (cA C1))) (hg3 : Gl X C2) (hm3 : X.mg C2 = some (.ref (cA C2))) (he : PE (X.suite a ((a, oe) :: pn)) e (tVar i)) (hd2 : (C1 == ("__debug__" : Str)) = false := by kernel_rfl) (hd3 : (C2 == ("__debug__" : Str)) = false := by kernel_rfl)
    (hs1 : starEach [e, .Tuple [.Name C1 q, .Name C2 q2] kk q3] X.env = (false, eval e X.env) :: starEach [.Tuple [.Name C1 q, .Name C2 q2] kk q3] X.env := by kernel_rfl) (hs2 : starEach [.Tuple [.Name C1 q, .Name C2 q2] kk q3] X.env = (false, eval (.Tuple [.Name C1 q, .Name C2 q2] kk q3) X.env) :: starEach [] X.env := by kernel_rfl) (hpl : (backTo pos (starEach [.Tuple [.Name C1 q, .Name C2 q2] kk q3] X.env)).any (·.1) = false := by kernel_rfl)
    (hs3 : starEach [.Name C1 q, .Name C2 q2] X.env = (false, eval (.Name C1 q) X.env) :: starEach [.Name C2 q2] X.env := by kernel_rfl) (hs4 : starEach [.Name C2 q2] X.env = (false, eval (.Name C2 q2) X.env) :: starEach [] X.env := by kernel_rfl) :
    PE (X.suite a ((a, oe) :: pn)) (.Call (.Name "isinstance" p) [e, .Tuple [.Name C1 q, .Name C2 q2] kk q3] [] pos) (TSE cA i a cls d (sIsX D b)) := by
  refine ⟨fun pins s σ H Q I w => ?_⟩
  obtain ⟨ex, y, Z, w1, hσ, hx, eq, hq⟩ := w
  obtain ⟨hc, hne, rfl⟩ := exX eq
  have e1 : cls = .ref (cA D) := by rw [hx.1, hc]
  rcases hx.2 with hh | ⟨_, dd, hd, hZ, hH⟩
  · exact absurd hh.1 hne
  · subst e1 hd
    refine (pe_callB (X := X.suite a ((a, oe) :: pn)) (call_isX T hz hf) hg hm PyProof.Rows.boot_isinstance (pa_cons he (pa_cons (pe_tup (pa_cons (pe_glob (v := .ref (cA C1)) hg2 hm2 rfl hd2) (pa_cons (pe_glob (v := .ref (cA C2)) hg3 hm3 rfl hd3) pa_nil hs4) hs3)) pa_nil hs2) hs1) (by decide) (by decide) hs1 hpl).run pins s σ H Q I ⟨_, hσ, by show (2 : Nat) ≤ sizeLine; rw [sizeLine_eq]; omega, fun p' hp' => ?_⟩
    have hne2 : dd ≠ p' := fun z => by rw [z, hp'] at hH; cases hH
    refine ⟨⟨_, by rw [upd_ne hne2]; exact hH⟩, .inr ⟨p', [.ref (cA C1), .ref (cA C2)], [.ref (cA C1), .ref (cA C2)], b, rfl, upd_same, fun ws hws => ?_, kit, hq _ Z ((wf_new w1 hp' (fun a m => nomatch m)).less (List.nil_sublist _)) ((fr_new hp').less fun a m => nomatch m)⟩⟩
    cases hws with
    | cons r1 hws =>
      cases hws with
      | cons r2 hws =>
        cases hws
        cases r1
        cases r2
        rfl
end
end DL
namespace DL
open PySem L2
end DL
namespace DL
open PySem L2
end DL
namespace L2
open PySem PySem.Spec PyProof.Rows
end L2
namespace DL
open PySem L2
end DL
namespace DL
open PySem L2
section
variable {prog : Program} {w : World} {κ : Type} [DecidableEq κ] {kd : KeyKind prog w κ} {A : Around} {E : Value → Shared → Prop} {s : Shared}
end
section
variable {X : Cx} {a b c : Expr} {pos : Pos}
end
section
variable {X : Cx} {cA : Str → Addr} {W : WX} {a b c : Expr} {pos : Pos}
end
section
variable {X : Cx} {cA : Str → Addr} {W : WX} {g : Env → Out (List Ag)}
section
variable {k n j : Nat} {kio : Option Nat} {f : Addr} {ps : List Str} {F : List D → FR} {x : Str} {p pos : Pos} {e : Expr} {es : List Expr}
end
end
end DL
namespace DL
open PySem PySem.Spec PySem.W PyProof.Rows L2
section
variable {prog : Program} {w : World} {A : Around} {E : Value → Shared → Prop} {s : Shared} {Q : Bool → Shared → Prop}
end
def OkV (h : Heap) (vs : List Value) : Prop := ∀ v ∈ vs, ∃ ns, TS.TupInts h v ns ∧ 1 ≤ ns.length ∧ ns.length ≤ 60 ∧ TS.Bd bU ns
theorem OkV.keeps {h g : Heap} {vs : List Value} (x : OkV h vs) (k : ∀ b o, h.get? b = some o → o.cls = .type "tuple" → g.get? b = some o) : OkV g vs := fun v m =>
  let ⟨ns, t, r⟩ := x v m
  ⟨ns, t.keeps k, r⟩
section
variable {prog : Program} {w : World} {A : Around} {E : Value → Shared → Prop} {s : Shared}
end
section
variable {X : Cx}
end
section
variable {K : PySem.W.Frag} {cA : Str → Addr}
end
section
variable {X : Cx} {cA : Str → Addr} {W : WX} {fa : Env → Out D} {a : Expr} {p pos : Pos}
end
end DL
namespace DL
open PySem L2
section
variable {X : Cx} {cA : Str → Addr} {W : WX} {k : Option Nat} {fb : Env → Out D} {e o ix : Expr} {pos apos cpos spos : Pos}
end
end DL
namespace DL
open PySem L2 PyProof.Rows
section
variable {X : Cx} {cA : Str → Addr} {W : WX} {fa fb : Env → Out D} {a b : Expr} {pos apos : Pos}
end
end DL
namespace DL
open PySem L2
section
variable {κ : Type} [DecidableEq κ]
end
section
variable {K : PySem.W.Frag} {cA : Str → Addr} {H H' : Hp} {Z Z' : ZS} {κ : Type} [DecidableEq κ]
end
section
variable {X : Cx} {cA : Str → Addr} {W : WX} {fa fb fc f : Env → Out D} {a b c e o ix : Expr} {pos apos cpos : Pos} {k : Option Nat}
end
end DL
namespace L2
open PySem PySem.Spec PyProof.Rows
end L2
namespace DL
open PySem L2
end DL
namespace DL
open PySem PySem.Spec PySem.W PyProof.Rows L2
section
variable {X : Cx}
end
section
variable {K : PySem.W.Frag} {cA : Str → Addr}
end
section
variable {X : Cx} {cA : Str → Addr} {W : WX} {fa : Env → Out D} {a : Expr} {p pos : Pos}
end
end DL
namespace DL
open PySem PySem.Spec PySem.W PyProof.Rows L2
section
variable {X : Cx}
end
section
variable {K : PySem.W.Frag} {cA : Str → Addr}
end
section
variable {X : Cx} {cA : Str → Addr} {W : WX} {fa : Env → Out D} {a : Expr} {p pos : Pos}
end
end DL
namespace DL
open PySem PySem.Spec PySem.W PyProof.Rows L2
end DL
namespace G00
open PySem L2 DL PyProof.Rows
def top (i : Nat) : Stmt := PySem.Challenge.pw_orderforms_k00_sets_as_bits.main.body.getD i (.Pass ⟨0, 0, 0, 0⟩)
abbrev s_law_state : Stmt := top 16
def d_law_state : He.DefD := ⟨("_law_state", none), "_law_state", "_law_state", defArgs s_law_state, defBody s_law_state, defScope s_law_state, [], []⟩
abbrev s_law_members : Stmt := top 18
def d_law_members : He.DefD := ⟨("_law_members", none), "_law_members", "_law_members", defArgs s_law_members, defBody s_law_members, defScope s_law_members, [], []⟩
abbrev s_law_take : Stmt := top 17
def d_law_take : He.DefD := ⟨("_law_take", none), "_law_take", "_law_take", defArgs s_law_take, defBody s_law_take, defScope s_law_take, [], []⟩
abbrev s_set_of : Stmt := top 10
def d_set_of : He.DefD := ⟨("set_of", none), "set_of", "set_of", defArgs s_set_of, defBody s_set_of, defScope s_set_of, [], []⟩
abbrev s_members : Stmt := top 8
def d_members : He.DefD := ⟨("members", none), "members", "members", defArgs s_members, defBody s_members, defScope s_members, [], []⟩
abbrev s_lowest : Stmt := top 11
def d_lowest : He.DefD := ⟨("lowest", none), "lowest", "lowest", defArgs s_lowest, defBody s_lowest, defScope s_lowest, [], []⟩
abbrev s_law_refused : Stmt := top 19
def d_law_refused : He.DefD := ⟨("_law_refused", none), "_law_refused", "_law_refused", defArgs s_law_refused, defBody s_law_refused, defScope s_law_refused, [], []⟩
abbrev s_count : Stmt := top 9
def d_count : He.DefD := ⟨("count", none), "count", "count", defArgs s_count, defBody s_count, defScope s_count, [], []⟩
abbrev s_has : Stmt := top 12
def d_has : He.DefD := ⟨("has", none), "has", "has", defArgs s_has, defBody s_has, defScope s_has, [], []⟩
abbrev s_is_part : Stmt := top 13
def d_is_part : He.DefD := ⟨("is_part", none), "is_part", "is_part", defArgs s_is_part, defBody s_is_part, defScope s_is_part, [], []⟩
abbrev s_is_integer : Stmt := top 6
def d_is_integer : He.DefD := ⟨("is_integer", none), "is_integer", "is_integer", defArgs s_is_integer, defBody s_is_integer, defScope s_is_integer, [], []⟩
abbrev s_is_set : Stmt := top 7
def d_is_set : He.DefD := ⟨("is_set", none), "is_set", "is_set", defArgs s_is_set, defBody s_is_set, defScope s_is_set, [], []⟩
abbrev s_parts : Stmt := top 14
def d_parts : He.DefD := ⟨("parts", none), "parts", "parts", defArgs s_parts, defBody s_parts, defScope s_parts, [], []⟩
abbrev s_law : Stmt := top 20
def d_law : He.DefD := ⟨("law", none), "law", "law", defArgs s_law, defBody s_law, defScope s_law, [], []⟩
def fn : List He.DefD := [d_law_state, d_law_members, d_law_take, d_set_of, d_members, d_lowest, d_law_refused, d_count, d_has, d_is_part, d_is_integer, d_is_set, d_parts, d_law]
def fa : List He.Fa := [.free "abs", .free "int", .free "range", .free "tuple", .glo "Refused", .free "super", .glo "members", .glo "lowest", .glo "Fault", .exm "Malformed" "Fault" true, .exm "Refused" "Fault" true, .exm "NoText" "Fault" true, .free "isinstance", .noat "Refused" "reason", .free "ValueError", .glo "Malformed", .glo "NoText", .free "len", .free "bool", .glo "is_integer", .glo "_law_state", .glo "_law_take", .glo "_law_members", .glo "count", .glo "set_of", .glo "has", .glo "is_part", .glo "is_set", .glo "parts", .glo "_law_refused", .glo "law"]
def file : Str := "/claim/cut.py"
abbrev se_Refused : Stmt := inClass (top 3) 0
def es : List DL.ExD := [⟨"Refused", "reason", "__init__", "Refused.__init__", defArgs se_Refused, defBody se_Refused, defScope se_Refused⟩]
def ys : List DL.Fy := [fun K => DL.excCB K (He.ga K "Refused"), fun K => decide (PySem.W.kitOne K (.ref (He.ga K "Refused")) (.ref (He.ga K "Refused")) = some true), fun K => xfB K (He.ga K "Refused"), fun K => decide (PySem.W.kitOne K (.ref (He.ga K "Refused")) (.type "ValueError") = some true), fun K => decide (PySem.W.kitAny K (.ref (He.ga K "Refused")) [.ref (He.ga K "Malformed"), .ref (He.ga K "NoText")] = some false)]
end G00
namespace G00
open PySem L2 DL PyProof.Rows
def names0 : List PySem.Str := ["Fault", "Malformed", "Refused", "NoText", "is_integer", "is_set", "members", "count", "set_of", "lowest", "has", "is_part", "parts", "_law_state", "_law_take", "_law_members", "_law_refused"]
def names : List PySem.Str := names0
abbrev R : PySem.W.OpenRow := PySem.W.OpenLaw.row PySem.Challenge.rw_orderforms_k00_sets_as_bits
abbrev hk : PySem.W.Hook := DL.hookY 6 file fa fn es ys
def ob (s : PySem.W.SharedT) : DL.AlY := DL.obsYG 6 file fa fn es ys (HandSHeadRun.getT s)
theorem ob_eq (s : PySem.W.SharedT) : ob s = hk.obs s.abs := DL.obsYG_eq (HandSHeadRun.getT_eq s)
theorem run (w : World) : HandSHeadRun.RunEq R (PySem.W.view R.prog [20]) hk ob 6000 names w := by
  intro os
  kernel_rfl
end G00
namespace DL
open PySem L2
def SO {α : Type} (o : Option α) (P : α → Prop) : Prop := match o with
  | some x => P x
  | none => False
@[simp] theorem so_some {α : Type} {x : α} {P : α → Prop} : SO (some x) P = P x := rfl
@[simp] theorem so_none {α : Type} {P : α → Prop} : SO none P = False := rfl
@[simp] theorem so_ite {α : Type} {c : Prop} [Decidable c] {a b : Option α} {P : α → Prop} : SO (if c then a else b) P = (if c then SO a P else SO b P) := by split <;> rfl
def WO {α : Type} (E : Exn → DL.Env → Prop) (P : α → DL.Env → Prop) : Out α → Prop
  | .ok x ρ => P x ρ
  | .ex e ρ => E e ρ
  | .st => False
abbrev NoE {β : Type} : Exn → β → Prop := fun _ _ => False
@[simp] theorem wo_ok {α : Type} {E : Exn → DL.Env → Prop} {P : α → DL.Env → Prop} {x : α} {ρ : DL.Env} : WO E P (.ok x ρ) = P x ρ := rfl
@[simp] theorem wo_ex {α : Type} {E : Exn → DL.Env → Prop} {P : α → DL.Env → Prop} {e : Exn} {ρ : DL.Env} : WO E P (.ex e ρ) = E e ρ := rfl
structure Ps where
  nx : DL.Env → Prop
  rt : D → DL.Env → Prop
  bk : DL.Env → Prop
  ct : DL.Env → Prop
  ex : Exn → DL.Env → Prop
def WP (Q : Ps) : Fl → Prop
  | .nx ρ => Q.nx ρ
  | .rt d ρ => Q.rt d ρ
  | .bk ρ => Q.bk ρ
  | .ct ρ => Q.ct ρ
  | .ex e ρ => Q.ex e ρ
  | .st => False
def WF (E : Exn → Option D → Prop) (P : D → Option D → Prop) : FR → Prop
  | .rt d io => P d io
  | .ex e io => E e io
  | .st => False
@[simp] theorem wf_rt {E : Exn → Option D → Prop} {P : D → Option D → Prop} {d : D} {io : Option D} : WF E P (.rt d io) = P d io := rfl
@[simp] theorem wf_exr {E : Exn → Option D → Prop} {P : D → Option D → Prop} {e : Exn} {io : Option D} : WF E P (.ex e io) = E e io := rfl
theorem WF.mono {E : Exn → Option D → Prop} {P R : D → Option D → Prop} {r : FR} (h : WF NoE P r) (i : ∀ d io, P d io → R d io) : WF E R r := by
  cases r with
  | rt d io => exact i d io h
  | ex e io => exact h.elim
  | st => exact h
theorem wf_eq {r : FR} {d : D} {io : Option D} (h : WF NoE (fun d' io' => d' = d ∧ io' = io) r) : r = .rt d io := by
  cases r with
  | rt d' io' => obtain ⟨a, b⟩ := h; subst a b; rfl
  | ex e io => exact h.elim
  | st => exact h.elim
section
variable {E : Exn → DL.Env → Prop} {P : D → DL.Env → Prop} {PB : Bool → DL.Env → Prop} {PA : List Ag → DL.Env → Prop} {PL : List D → DL.Env → Prop} {ρ : DL.Env} {i j n : Nat} {f fa fb : DL.Env → Out D} {t u : DL.Env → Out Bool} {g : DL.Env → Out (List Ag)} {x : At}
@[simp] theorem w_C : WO E P (dC x ρ) = P (.a x) ρ := rfl
@[simp] theorem w_Var : WO E P (dVar i ρ) = SO (ρ[i]?) (fun o => SO o fun d => isF d = true ∧ P d ρ) := by
  unfold dVar
  split
  · rename_i d h
    rw [h]
    split
    · rename_i h2; simp [h2]
    · rename_i h2; simp [h2, WO]
  · rename_i h
    cases e : ρ[i]? with
    | none => rfl
    | some o =>
      cases o with
      | none => rfl
      | some d => exact absurd e (h d)
@[simp] theorem w_Peek : WO E P (dPeek i ρ) = SO (ρ[i]?) (fun o => SO o fun d => P d ρ) := by
  unfold dPeek
  split
  · rename_i d h
    rw [h]; rfl
  · rename_i h
    cases e : ρ[i]? with
    | none => rfl
    | some o =>
      cases o with
      | none => rfl
      | some d => exact absurd e (h d)
@[simp] theorem w_Fz : WO E P (dFz f ρ) = WO E (fun d ρ1 => P (frz d) ρ1) (f ρ) := by
  unfold dFz; cases f ρ <;> rfl
@[simp] theorem w_Op2 {g : D → D → Option D} : WO E P (dOp2 g fa fb ρ) = WO E (fun d1 ρ1 => WO E (fun d2 ρ2 => SO (g d1 d2) fun d => P d ρ2) (fb ρ1)) (fa ρ) := by
  unfold dOp2
  cases fa ρ with
  | st => rfl
  | ex e ρ1 => rfl
  | ok d1 ρ1 =>
    dsimp only [wo_ok]
    cases fb ρ1 with
    | st => rfl
    | ex e ρ2 => rfl
    | ok d2 ρ2 =>
      dsimp only [wo_ok]
      cases g d1 d2 <;> rfl
@[simp] theorem w_U {g : D → Option D} : WO E P (dU g fa ρ) = WO E (fun d1 ρ1 => SO (g d1) fun d => P d ρ1) (fa ρ) := by
  unfold dU
  cases fa ρ with
  | st => rfl
  | ex e ρ1 => rfl
  | ok d1 ρ1 => dsimp only [wo_ok]; cases g d1 <;> rfl
def asB (d : D) (P : Bool → Prop) : Prop := match d with
  | .a (.bl b) => P b
  | _ => False
@[simp] theorem asB_bl {b : Bool} {P : Bool → Prop} : asB (.a (.bl b)) P = P b := rfl
def asI (d : D) (P : Int → Prop) : Prop := match d with
  | .a (.int b) => P b
  | _ => False
@[simp] theorem asI_int {b : Int} {P : Int → Prop} : asI (.a (.int b)) P = P b := rfl
@[simp] theorem w_B : WO E PB (dB f ρ) = WO E (fun d ρ1 => asB d fun b => PB b ρ1) (f ρ) := by
  unfold dB
  cases f ρ with
  | st => rfl
  | ex e ρ1 => rfl
  | ok d ρ1 =>
    cases d with
    | n _ _ _ => rfl
    | a x => cases x <;> rfl
@[simp] theorem w_AndT : WO E PB (dAndT t u ρ) = WO E (fun b ρ1 => if b = true then WO E PB (u ρ1) else PB false ρ1) (t ρ) := by
  unfold dAndT
  cases t ρ with
  | st => rfl
  | ex e ρ1 => rfl
  | ok b ρ1 => cases b <;> rfl
@[simp] theorem w_OrT : WO E PB (dOrT t u ρ) = WO E (fun b ρ1 => if b = true then PB true ρ1 else WO E PB (u ρ1)) (t ρ) := by
  unfold dOrT
  cases t ρ with
  | st => rfl
  | ex e ρ1 => rfl
  | ok b ρ1 => cases b <;> rfl
@[simp] theorem w_NotT : WO E PB (dNotT t ρ) = WO E (fun b ρ1 => PB (!b) ρ1) (t ρ) := by
  unfold dNotT
  cases t ρ <;> rfl
@[simp] theorem w_AndV : WO E P (dAndV fa fb ρ) = WO E (fun d ρ1 => asB d fun b => if b = true then WO E P (fb ρ1) else P (.a (.bl false)) ρ1) (fa ρ) := by
  rw [← w_B]
  unfold dAndV
  cases dB fa ρ with
  | st => rfl
  | ex e ρ1 => rfl
  | ok b ρ1 => cases b <;> rfl
@[simp] theorem w_OrV : WO E P (dOrV fa fb ρ) = WO E (fun d ρ1 => asB d fun b => if b = true then P (.a (.bl true)) ρ1 else WO E P (fb ρ1)) (fa ρ) := by
  rw [← w_B]
  unfold dOrV
  cases dB fa ρ with
  | st => rfl
  | ex e ρ1 => rfl
  | ok b ρ1 => cases b <;> rfl
@[simp] theorem w_NotV : WO E P (dNotV fa ρ) = WO E (fun d ρ1 => asB d fun b => P (.a (.bl (!b))) ρ1) (fa ρ) := by
  rw [← w_B]
  unfold dNotV
  cases dB fa ρ <;> rfl
@[simp] theorem w_IfE : WO E P (dIfE t fa fb ρ) = WO E (fun b ρ1 => if b = true then WO E P (fa ρ1) else WO E P (fb ρ1)) (t ρ) := by
  unfold dIfE
  cases t ρ with
  | st => rfl
  | ex e ρ1 => rfl
  | ok b ρ1 => cases b <;> rfl
@[simp] theorem w_ANil : WO E PA (dANil ρ) = PA [] ρ := rfl
@[simp] theorem w_ACons : WO E PA (dACons f g ρ) = WO E (fun d ρ1 => WO E (fun ds ρ2 => PA (.d d :: ds) ρ2) (g ρ1)) (f ρ) := by
  unfold dACons
  cases f ρ with
  | st => rfl
  | ex e ρ1 => rfl
  | ok d ρ1 => dsimp only [wo_ok]; cases g ρ1 <;> rfl
@[simp] theorem w_ALent : WO E PA (dALent i g ρ) = SO (ρ[i]?) (fun o => SO o fun _ => WO E (fun ds ρ2 => PA (.s i :: ds) ρ2) (g ρ)) := by
  unfold dALent
  split
  · rename_i d h
    rw [h]
    dsimp only [so_some]
    cases g ρ <;> rfl
  · rename_i h
    cases e : ρ[i]? with
    | none => rfl
    | some o =>
      cases o with
      | none => rfl
      | some d => exact absurd e (h d)
@[simp] theorem w_Tup : WO E P (dTup g ρ) = WO E (fun ds ρ1 => SO (agL ds) fun xs => xs.length ≤ cap ∧ P (.tup (frzL xs)) ρ1) (g ρ) := by
  unfold dTup
  cases g ρ with
  | st => rfl
  | ex e ρ1 => rfl
  | ok ds ρ1 =>
    dsimp only [wo_ok]
    cases agL ds with
    | none => rfl
    | some xs =>
      dsimp only [so_some]
      split
      · rename_i h; simp [h]
      · rename_i h; simp only [h, false_and]; rfl
@[simp] theorem w_Lst : WO E P (dLst g ρ) = WO E (fun ds ρ1 => SO (agL ds) fun xs => xs.length ≤ cap ∧ P (.lst true xs) ρ1) (g ρ) := by
  unfold dLst
  cases g ρ with
  | st => rfl
  | ex e ρ1 => rfl
  | ok ds ρ1 =>
    dsimp only [wo_ok]
    cases agL ds with
    | none => rfl
    | some xs =>
      dsimp only [so_some]
      split
      · rename_i h; simp [h]
      · rename_i h; simp only [h, false_and]; rfl
@[simp] theorem w_Call {F : List D → FR} : WO E P (dCall n F g ρ) = WO E (fun ds ρ1 => SO (agL ds) fun xs => xs.length = n ∧ WF (fun e _ => E e ρ1) (fun d _ => P d ρ1) (F (frzL xs))) (g ρ) := by
  unfold dCall
  cases g ρ with
  | st => rfl
  | ex e ρ1 => rfl
  | ok ds ρ1 =>
    dsimp only [wo_ok]
    cases agL ds with
    | none => rfl
    | some xs =>
      dsimp only [so_some]
      split
      · rename_i h
        simp only [h, true_and]
        cases F (frzL xs) <;> rfl
      · rename_i h; simp only [h, false_and]; rfl
@[simp] theorem w_Call0 {F : List D → FR} : WO E P (dCall0 F ρ) = WF (fun e _ => E e ρ) (fun d _ => P d ρ) (F []) := by
  unfold dCall0
  cases F [] <;> rfl
@[simp] theorem w_CallL {F : List D → FR} {kio : Option Nat} : WO E P (dCallL n kio F g ρ) = WO E (fun ds ρ1 => SO (agL1 ds) fun p => SO (ρ1[p.2.1]?) fun o => SO o fun d0 => (kio = some p.1.length ∧ p.1.length + (p.2.2.length + 1) = n) ∧ WF (fun e io => SO io fun d1 => E e (ρ1.set p.2.1 (some d1))) (fun d io => SO io fun d1 => P d (ρ1.set p.2.1 (some d1))) (F (frzL p.1 ++ (d0 :: frzL p.2.2)))) (g ρ) := by
  unfold dCallL
  cases g ρ with
  | st => rfl
  | ex e ρ1 => rfl
  | ok ds ρ1 =>
    dsimp only [wo_ok]
    cases agL1 ds with
    | none => rfl
    | some p =>
      obtain ⟨xs, i, ys⟩ := p
      dsimp only [so_some]
      cases ρ1[i]? with
      | none => rfl
      | some o =>
        cases o with
        | none => rfl
        | some d0 =>
          dsimp only [so_some]
          split
          · rename_i h
            simp only [h, and_self, true_and]
            cases F (frzL xs ++ (d0 :: frzL ys)) with
            | st => rfl
            | ex e io => cases io <;> rfl
            | rt d io => cases io <;> rfl
          · rename_i h; simp only [h, false_and]; rfl
@[simp] theorem w_Make {F : List D → FR} {C : Str} : WO E P (dMake C n F g ρ) = WO E (fun ds ρ1 => SO (agL ds) fun xs => xs.length = n ∧ WF (fun e _ => E e ρ1) (fun d io => d = .a .non ∧ SO io fun d1 => P d1 ρ1) (F (.n (.ins C []) true [] :: frzL xs))) (g ρ) := by
  unfold dMake
  cases g ρ with
  | st => rfl
  | ex e ρ1 => rfl
  | ok ds ρ1 =>
    dsimp only [wo_ok]
    cases agL ds with
    | none => rfl
    | some xs =>
      dsimp only [so_some]
      split
      · rename_i h
        simp only [h, true_and]
        cases F (.n (.ins C []) true [] :: frzL xs) with
        | st => rfl
        | ex e io => rfl
        | rt d io =>
          cases io with
          | none => cases d with
            | n _ _ _ => simp [WF, WO, SO]
            | a x => cases x <;> simp [WF, WO, SO]
          | some d1 => cases d with
            | n _ _ _ => simp [WF, WO, SO]
            | a x => cases x <;> simp [WF, WO, SO]
      · rename_i h; simp only [h, false_and]; rfl
def asIns (d : D) (P : Str → List Str → List D → Prop) : Prop := match d with
  | .n (.ins C fs) false xs => P C fs xs
  | _ => False
@[simp] theorem asIns_ins {C : Str} {fs : List Str} {xs : List D} {P : Str → List Str → List D → Prop} : asIns (.n (.ins C fs) false xs) P = P C fs xs := rfl
@[simp] theorem w_Meth {F : List D → FR} {C m : Str} : WO E P (dMeth C m n F fa g ρ) = WO E (fun d ρ1 => asIns d fun C' fs xs => (C' = C ∧ m ∉ fs ∧ isFL xs = true) ∧ WO E P (dCall n (fun ds => F (.n (.ins C fs) false xs :: ds)) g ρ1)) (fa ρ) := by
  unfold dMeth
  cases fa ρ with
  | st => rfl
  | ex e ρ1 => rfl
  | ok d ρ1 =>
    cases d with
    | a x => rfl
    | n k o xs =>
      cases k with
      | ins C' fs =>
        cases o with
        | true => rfl
        | false =>
          dsimp only [wo_ok, asIns_ins]
          split
          · rename_i h; simp only [h, and_self, true_and, not_false_eq_true]
          · rename_i h; simp only [h, false_and]; rfl
      | tup => rfl
      | lst => rfl
      | scr => rfl
      | dct ks => rfl
      | xt t => rfl
@[simp] theorem w_Iter : WO E PL (dIter f ρ) = WO E (fun d ρ1 => SO (itemsOf d) fun xs => isF d = true ∧ PL xs ρ1) (f ρ) := by
  unfold dIter
  cases f ρ with
  | st => rfl
  | ex e ρ1 => rfl
  | ok d ρ1 =>
    dsimp only [wo_ok]
    cases itemsOf d with
    | none => rfl
    | some xs =>
      dsimp only [so_some]
      split
      · rename_i h; simp [h]
      · rename_i h; simp [h, WO]
@[simp] theorem w_Rng1 : WO E PL (dRng1 f ρ) = WO E (fun d ρ1 => asI d fun j => (-1000000 ≤ j ∧ j ≤ 1000000) ∧ PL (intL 0 j.toNat) ρ1) (f ρ) := by
  unfold dRng1
  cases f ρ with
  | st => rfl
  | ex e ρ1 => rfl
  | ok d ρ1 =>
    cases d with
    | n _ _ _ => rfl
    | a x =>
      cases x with
      | int j =>
        dsimp only [wo_ok, asI_int]
        split
        · rename_i h; simp [h]
        · rename_i h; simp only [h, false_and]; rfl
      | non => rfl
      | bl b => rfl
      | str s => rfl
@[simp] theorem w_Rng2 : WO E PL (dRng2 fa fb ρ) = WO E (fun d ρ1 => asI d fun i => WO E (fun d2 ρ2 => asI d2 fun j => ((-1000000 ≤ i ∧ i ≤ 1000000) ∧ -1000000 ≤ j ∧ j ≤ 1000000) ∧ PL (intL i (j - i).toNat) ρ2) (fb ρ1)) (fa ρ) := by
  unfold dRng2
  cases fa ρ with
  | st => rfl
  | ex e ρ1 => rfl
  | ok d ρ1 =>
    cases d with
    | n _ _ _ => rfl
    | a x =>
      cases x with
      | int i =>
        dsimp only [wo_ok, asI_int]
        cases fb ρ1 with
        | st => rfl
        | ex e ρ2 => rfl
        | ok d2 ρ2 =>
          cases d2 with
          | n _ _ _ => rfl
          | a y =>
            cases y with
            | int j =>
              dsimp only [wo_ok, asI_int]
              split
              · rename_i h; simp [h]
              · rename_i h; simp only [h, false_and]; rfl
            | non => rfl
            | bl b => rfl
            | str s => rfl
      | non => rfl
      | bl b => rfl
      | str s => rfl
@[simp] theorem w_Dp : WO E P (dDp f ρ) = WO E (fun d ρ1 => isF d = true ∧ P d ρ1) (f ρ) := by
  unfold dDp
  cases f ρ with
  | st => rfl
  | ex e ρ1 => rfl
  | ok d ρ1 =>
    dsimp only [wo_ok]
    split
    · rename_i h; simp [h]
    · rename_i h; simp [h, WO]
@[simp] theorem w_IxP {q : DL.Env → Option At} : WO E P (dIxP fa q ρ) = WO E (fun x ρ1 => SO (q ρ1) fun k => SO (gIxO x (.a k)) fun d => P d ρ1) (fa ρ) := by
  unfold dIxP
  cases fa ρ with
  | st => rfl
  | ex e ρ1 => rfl
  | ok d ρ1 =>
    dsimp only [wo_ok]
    cases q ρ1 with
    | none => rfl
    | some k => dsimp only [so_some]; cases gIxO d (.a k) <;> rfl
@[simp] theorem w_IxS : WO E P (dIxS i fb ρ) = WO E (fun k ρ1 => SO (ρ1[i]?) fun o => SO o fun x => SO (gIxO x k) fun d => P d ρ1) (fb ρ) := by
  unfold dIxS
  cases fb ρ with
  | st => rfl
  | ex e ρ1 => rfl
  | ok k ρ1 =>
    dsimp only [wo_ok]
    cases ρ1[i]? with
    | none => rfl
    | some o =>
      cases o with
      | none => rfl
      | some x => dsimp only [so_some]; cases gIxO x k <;> rfl
@[simp] theorem w_IxV : WO E P (dIxV i fb ρ) = SO (ρ[i]?) (fun o => SO o fun _ => WO E (fun k ρ1 => SO (ρ1[i]?) fun o => SO o fun x => SO (gIxO x k) fun d => isF d = true ∧ P d ρ1) (fb ρ)) := by
  unfold dIxV
  split
  · rename_i y h
    rw [h]
    dsimp only [so_some]
    rw [← w_IxS]
    cases dIxS i fb ρ with
    | st => rfl
    | ex e ρ1 => rfl
    | ok d ρ1 =>
      dsimp only [wo_ok]
      split
      · rename_i h; simp [h]
      · rename_i h; simp [h, WO]
  · rename_i h
    cases e : ρ[i]? with
    | none => rfl
    | some o =>
      cases o with
      | none => rfl
      | some d => exact absurd e (h d)
@[simp] theorem w_PopAt : WO E P (dPopAt i fb ρ) = SO (ρ[i]?) (fun o => SO o fun x => (match x with | .n .lst true _ => True | _ => False) ∧ WO E (fun k ρ1 => asI k fun z => SO (ρ1[i]?) fun o => SO o fun x => (match x with
    | .n .lst true xs => (-1000000 ≤ z ∧ z ≤ 1000000) ∧ SO (seqIndex? z xs.length) fun j => SO (xs[j]?) fun d => P d (ρ1.set i (some (.lst true (xs.eraseIdx j))))
    | _ => False)) (fb ρ)) := by
  unfold dPopAt
  split
  · rename_i ys h
    rw [h]
    dsimp only [so_some]
    rw [true_and]
    cases fb ρ with
    | st => rfl
    | ex e ρ1 => rfl
    | ok k ρ1 =>
      cases k with
      | n _ _ _ => rfl
      | a y =>
        cases y with
        | int z =>
          dsimp only [wo_ok, asI_int]
          split
          · rename_i xs h2
            rw [h2]
            dsimp only [so_some]
            split
            · rename_i h3
              simp only [h3, and_self, true_and]
              cases seqIndex? z xs.length with
              | none => rfl
              | some j => dsimp only [so_some]; cases xs[j]? <;> rfl
            · rename_i h3; simp only [h3, false_and]; rfl
          · rename_i h2
            cases e : ρ1[i]? with
            | none => rfl
            | some o =>
              cases o with
              | none => rfl
              | some d =>
                cases d with
                | a x => rfl
                | n k o xs =>
                  cases k with
                  | lst => cases o with
                    | true => exact absurd e (h2 xs)
                    | false => rfl
                  | _ => rfl
        | non => rfl
        | bl b => rfl
        | str s => rfl
  · rename_i h
    cases e : ρ[i]? with
    | none => rfl
    | some o =>
      cases o with
      | none => rfl
      | some d =>
        cases d with
        | a x => simp [WO, SO]
        | n k o xs =>
          cases k with
          | lst => cases o with
            | true => exact absurd e (h xs)
            | false => simp [WO, SO]
          | _ => simp [WO, SO]
end
theorem dPart_some {f : DL.Env → Out D} {ρ : DL.Env} {P : Option Int → DL.Env → Prop} : WO E P (dPart (some f) ρ) = WO E (fun d ρ1 => asI d fun i => P (some i) ρ1) (f ρ) := by
  unfold dPart
  dsimp only
  cases f ρ with
  | st => rfl
  | ex e ρ1 => rfl
  | ok d ρ1 =>
    cases d with
    | n _ _ _ => rfl
    | a x => cases x <;> rfl
@[simp] theorem w_part0 {ρ : DL.Env} {P : Option Int → DL.Env → Prop} : WO E P (dPart none ρ) = P none ρ := rfl
@[simp] theorem w_part1 {f : DL.Env → Out D} {ρ : DL.Env} {P : Option Int → DL.Env → Prop} : WO E P (dPart (some f) ρ) = WO E (fun d ρ1 => asI d fun i => P (some i) ρ1) (f ρ) := dPart_some
@[simp] theorem w_Sl {P : D → DL.Env → Prop} {fa : DL.Env → Out D} {lo hi : Option (DL.Env → Out D)} {ρ : DL.Env} : WO E P (dSl fa lo hi ρ) = WO E (fun x ρ1 => WO E (fun l ρ2 => WO E (fun u ρ3 => SO (gSl x l u) fun d => P d ρ3) (dPart hi ρ2)) (dPart lo ρ1)) (fa ρ) := by
  unfold dSl
  cases fa ρ with
  | st => rfl
  | ex e ρ1 => rfl
  | ok x ρ1 =>
    dsimp only [wo_ok]
    cases dPart lo ρ1 with
    | st => rfl
    | ex e ρ2 => rfl
    | ok l ρ2 =>
      dsimp only [wo_ok]
      cases dPart hi ρ2 with
      | st => rfl
      | ex e ρ3 => rfl
      | ok u ρ3 => dsimp only [wo_ok]; cases gSl x l u <;> rfl
@[simp] theorem w_Lc {P : D → DL.Env → Prop} {vs : List Nat} {src : DL.Env → Out (List D)} {g : D → DL.Env → Option DL.Env} {t : DL.Env → Out Bool} {f : DL.Env → Out D} {ρ : DL.Env} :
    WO E P (dLc vs src g t f ρ) = WO E (fun ds ρ1 => ds.length ≤ cap ∧ WO NoE (fun ys ρ2 => P (.lst true ys) (backE ρ1 vs (wipeE ρ2 vs))) (lcL vs g t f ds (wipeE ρ1 vs))) (src ρ) := by
  unfold dLc
  cases src ρ with
  | st => rfl
  | ex e ρ1 => rfl
  | ok ds ρ1 =>
    dsimp only [wo_ok]
    split
    · rename_i h
      simp only [h, true_and]
      cases lcL vs g t f ds (wipeE ρ1 vs) <;> rfl
    · rename_i h; simp only [h, false_and]; rfl
theorem lcL_run {vs : List Nat} {g : D → DL.Env → Option DL.Env} {t : DL.Env → Out Bool} {f : DL.Env → Out D} {ρ : DL.Env} (tb : D → Bool) (fv : D → D) : ∀ (ds : List D),
    (∀ d ∈ ds, SO (g d ρ) fun ρ1 => WO NoE (fun b ρ2 => b = tb d ∧ (if tb d = true then WO NoE (fun y ρ3 => y = fv d ∧ wipeE ρ3 vs = ρ) (f ρ2) else wipeE ρ2 vs = ρ)) (t ρ1)) →
    lcL vs g t f ds ρ = .ok ((ds.filter tb).map fv) ρ
  | [], _ => rfl
  | d :: ds, h => by
    have ih := lcL_run tb fv ds fun e he => h e (List.mem_cons_of_mem _ he)
    have h0 := h d (by simp)
    unfold lcL
    cases hg : g d ρ with
    | none => rw [hg] at h0; exact h0.elim
    | some ρ1 =>
      rw [hg] at h0
      dsimp only [so_some] at h0 ⊢
      cases ht : t ρ1 with
      | st => rw [ht] at h0; exact h0.elim
      | ex e ρ2 => rw [ht] at h0; exact h0.elim
      | ok b ρ2 =>
        rw [ht] at h0
        obtain ⟨e1, h1⟩ := h0
        subst e1
        cases hb : tb d with
        | false =>
          rw [hb, if_neg Bool.false_ne_true] at h1
          dsimp only
          rw [h1, ih, List.filter_cons, hb]
          rfl
        | true =>
          rw [hb, if_pos rfl] at h1
          dsimp only
          cases hf : f ρ2 with
          | st => rw [hf] at h1; exact h1.elim
          | ex e ρ3 => rw [hf] at h1; exact h1.elim
          | ok y ρ3 =>
            rw [hf] at h1
            obtain ⟨e2, e3⟩ := h1
            subst e2
            dsimp only
            rw [e3, ih, List.filter_cons, hb]
            rfl
section
variable {Q : Ps} {ρ : DL.Env} {i j n : Nat} {f g : DL.Env → Fl} {fa fb : DL.Env → Out D} {t : DL.Env → Out Bool} {d : D}
@[simp] theorem p_nx : WP Q (.nx ρ) = Q.nx ρ := rfl
@[simp] theorem p_rt : WP Q (.rt d ρ) = Q.rt d ρ := rfl
@[simp] theorem p_Next : WP Q (dNext ρ) = Q.nx ρ := rfl
@[simp] theorem p_Break : WP Q (dBreak ρ) = Q.bk ρ := rfl
@[simp] theorem p_Cont : WP Q (dCont ρ) = Q.ct ρ := rfl
@[simp] theorem p_No : WP Q (dNo ρ) = False := rfl
@[simp] theorem p_Seq : WP Q (dSeq f g ρ) = WP ⟨fun ρ1 => WP Q (g ρ1), Q.rt, Q.bk, Q.ct, Q.ex⟩ (f ρ) := by
  unfold dSeq; cases f ρ <;> rfl
@[simp] theorem p_Bind {h : D → DL.Env → Fl} : WP Q (dBind fa h ρ) = WO Q.ex (fun d ρ1 => WP Q (h d ρ1)) (fa ρ) := by
  unfold dBind; cases fa ρ <;> rfl
@[simp] theorem p_If : WP Q (dIf t f g ρ) = WO Q.ex (fun b ρ1 => if b = true then WP Q (f ρ1) else WP Q (g ρ1)) (t ρ) := by
  unfold dIf
  cases t ρ with
  | st => rfl
  | ex e ρ1 => rfl
  | ok b ρ1 => cases b <;> rfl
@[simp] theorem p_Set : WP Q (stSet i d ρ) = (i < ρ.length ∧ Q.nx (ρ.set i (some d))) := by
  unfold stSet
  split
  · rename_i h; simp [h]
  · rename_i h; simp only [h, false_and]; rfl
@[simp] theorem p_RetMv : WP Q (dRetMv i ρ) = SO (ρ[i]?) (fun o => SO o fun d => Q.rt d (ρ.set i none)) := by
  unfold dRetMv
  split
  · rename_i d h; rw [h]; rfl
  · rename_i h
    cases e : ρ[i]? with
    | none => rfl
    | some o =>
      cases o with
      | none => rfl
      | some d => exact absurd e (h d)
def asL (d : D) (P : List D → Prop) : Prop := match d with
  | .n .lst true xs => P xs
  | _ => False
@[simp] theorem asL_lst {xs : List D} {P : List D → Prop} : asL (.n .lst true xs) P = P xs := rfl
theorem asL_cases {d : D} {P : List D → Prop} (h : ∀ xs, d ≠ .n .lst true xs) : asL d P = False := by
  cases d with
  | a x => rfl
  | n k o xs =>
    cases k with
    | lst => cases o with
      | true => exact absurd rfl (h xs)
      | false => rfl
    | _ => rfl
@[simp] theorem p_App : WP Q (stApp i d ρ) = SO (ρ[i]?) (fun o => SO o fun x => asL x fun xs => xs.length < cap ∧ Q.nx (ρ.set i (some (.lst true (xs ++ [d]))))) := by
  unfold stApp
  split
  · rename_i xs h
    rw [h]
    dsimp only [so_some, asL_lst]
    split
    · rename_i h; simp [h]
    · rename_i h; simp only [h, false_and]; rfl
  · rename_i h
    cases e : ρ[i]? with
    | none => rfl
    | some o =>
      cases o with
      | none => rfl
      | some d =>
        dsimp only [so_some]
        rw [asL_cases fun xs z => h xs (by rw [e, z])]
        rfl
@[simp] theorem p_Sub : WP Q (stSub i fb d ρ) = SO (ρ[i]?) (fun o => SO o fun x => asL x fun _ => WO Q.ex (fun k ρ2 => asI k fun z => SO (ρ2[i]?) fun o => SO o fun x => asL x fun xs => SO (ixN xs.length z) fun j => Q.nx (ρ2.set i (some (.lst true (xs.set j d))))) (fb ρ)) := by
  unfold stSub
  split
  · rename_i ys h
    rw [h]
    dsimp only [so_some, asL_lst]
    cases fb ρ with
    | st => rfl
    | ex e ρ1 => rfl
    | ok k ρ1 =>
      cases k with
      | n _ _ _ => rfl
      | a y =>
        cases y with
        | int z =>
          dsimp only [wo_ok, asI_int]
          split
          · rename_i xs h2
            rw [h2]
            dsimp only [so_some, asL_lst]
            cases ixN xs.length z <;> rfl
          · rename_i h2
            cases e : ρ1[i]? with
            | none => rfl
            | some o =>
              cases o with
              | none => rfl
              | some d =>
                dsimp only [so_some]
                rw [asL_cases fun xs z => h2 xs (by rw [e, z])]
                rfl
        | non => rfl
        | bl b => rfl
        | str s => rfl
  · rename_i h
    cases e : ρ[i]? with
    | none => rfl
    | some o =>
      cases o with
      | none => rfl
      | some d =>
        dsimp only [so_some]
        rw [asL_cases fun xs z => h xs (by rw [e, z])]
        rfl
@[simp] theorem p_Tg {g : D → DL.Env → Option DL.Env} : WP Q (stTg g d ρ) = SO (g d ρ) Q.nx := by
  unfold stTg; cases g d ρ <;> rfl
@[simp] theorem s_tg1 {P : DL.Env → Prop} : SO (tg1 i d ρ) P = (i < ρ.length ∧ P (ρ.set i (some d))) := by
  unfold tg1
  split
  · rename_i h; simp [h]
  · rename_i h; simp [h]
@[simp] theorem tgT_tup {is : List Nat} {o : Bool} {xs : List D} : tgT is (.n .tup o xs) ρ = tgL is xs ρ := rfl
@[simp] theorem tgL_nil : tgL [] [] ρ = some ρ := rfl
@[simp] theorem s_tgL {P : DL.Env → Prop} {is : List Nat} {ds : List D} : SO (tgL (i :: is) (d :: ds) ρ) P = (i < ρ.length ∧ SO (tgL is ds (ρ.set i (some d))) P) := by
  conv => lhs; unfold tgL
  split
  · rename_i h; simp [h]
  · rename_i h; simp [h]
@[simp] theorem p_Has : WP Q (dHas i f ρ) = SO (ρ[i]?) (fun o => SO o fun x => (match x with | .n .lst _ _ => True | _ => False) ∧ WP Q (f ρ)) := by
  unfold dHas
  split
  · rename_i o xs h
    rw [h]
    simp
  · rename_i h
    cases e : ρ[i]? with
    | none => rfl
    | some o =>
      cases o with
      | none => rfl
      | some d =>
        cases d with
        | a x => simp [WP, SO]
        | n k o xs =>
          cases k with
          | lst => exact absurd e (h o xs)
          | _ => simp [WP, SO]
def frzAt (i : Nat) (ρ : DL.Env) : DL.Env := match ρ[i]? with
  | some (some d) => ρ.set i (some (frz d))
  | _ => ρ
@[simp] theorem frzAt_some {d : D} (h : ρ[i]? = some (some d)) : frzAt i ρ = ρ.set i (some (frz d)) := by
  unfold frzAt; rw [h]
@[simp] theorem frzAt_none (h : ρ[i]? = some none) : frzAt i ρ = ρ := by
  unfold frzAt; rw [h]
@[simp] theorem p_Frz : WP Q (dFrz i f ρ) = WP ⟨fun ρ1 => Q.nx (frzAt i ρ1), Q.rt, Q.bk, Q.ct, Q.ex⟩ (f ρ) := by
  unfold dFrz
  rw [p_Seq]
  congr 2
  funext ρ1
  unfold frzAt
  cases e : ρ1[i]? with
  | none => simp
  | some o => cases o <;> simp
@[simp] theorem p_Fld {C x : Str} : WP Q (stFld C x i d ρ) = SO (ρ[i]?) (fun o => SO o fun y => (match y with
    | .n (.ins C' fs) true xs => (C' = C ∧ x ∉ fs ∧ xs.length < 900) ∧ Q.nx (ρ.set i (some (.n (.ins C (fs ++ [x])) true (xs ++ [d]))))
    | _ => False)) := by
  unfold stFld
  split
  · rename_i C' fs xs h
    rw [h]
    dsimp only [so_some]
    split
    · rename_i h; simp only [h, and_self, true_and, not_false_eq_true]; rfl
    · rename_i h; simp only [h, false_and]; rfl
  · rename_i h
    cases e : ρ[i]? with
    | none => rfl
    | some o =>
      cases o with
      | none => rfl
      | some d =>
        cases d with
        | a x => rfl
        | n k o xs =>
          cases k with
          | ins C' fs => cases o with
            | true => exact absurd e (h C' fs xs)
            | false => rfl
          | _ => rfl
@[simp] theorem p_For {src : DL.Env → Out (List D)} {g : D → DL.Env → Option DL.Env} : WP Q (dFor src g f ρ) = WO Q.ex (fun ds ρ1 => WP Q (forL g f ds ρ1)) (src ρ) := by
  unfold dFor; cases src ρ <;> rfl
theorem wp_for {g : D → DL.Env → Option DL.Env} {ds : List D} (I : Nat → DL.Env → Prop) (h0 : I 0 ρ)
    (hs : ∀ i d ρ, ds[i]? = some d → I i ρ → SO (g d ρ) fun ρ1 => WP ⟨I (i + 1), Q.rt, Q.nx, I (i + 1), Q.ex⟩ (f ρ1)) (he : ∀ ρ, I ds.length ρ → Q.nx ρ) : WP Q (forL g f ds ρ) := by
  have key : ∀ (es : List D) (k : Nat) (ρ : DL.Env), (∀ i, es[i]? = ds[k + i]?) → k + es.length = ds.length → I k ρ → WP Q (forL g f es ρ) := by
    intro es
    induction es with
    | nil =>
      intro k ρ _ hl hI
      have : k = ds.length := by simpa using hl
      subst this
      exact he ρ hI
    | cons d es ih =>
      intro k ρ hd hl hI
      have h1 : ds[k]? = some d := by
        have := hd 0
        simpa using this.symm
      have h2 := hs k d ρ h1 hI
      have nxt : ∀ ρ2, I (k + 1) ρ2 → WP Q (forL g f es ρ2) := fun ρ2 hI2 => ih (k + 1) ρ2 (fun i => by
        have := hd (i + 1)
        rw [List.getElem?_cons_succ] at this
        rw [this]
        congr 1
        omega) (by simp at hl; omega) hI2
      unfold forL
      cases hg : g d ρ with
      | none => rw [hg] at h2; exact h2.elim
      | some ρ1 =>
        rw [hg] at h2
        dsimp only [so_some] at h2 ⊢
        cases hb : f ρ1 with
        | nx ρ2 => rw [hb] at h2; exact nxt ρ2 h2
        | ct ρ2 => rw [hb] at h2; exact nxt ρ2 h2
        | bk ρ2 => rw [hb] at h2; exact h2
        | rt d ρ2 => rw [hb] at h2; exact h2
        | ex e ρ2 => rw [hb] at h2; exact h2
        | st => rw [hb] at h2; exact h2
  exact key ds 0 ρ (fun i => by rw [Nat.zero_add]) (by omega) h0
end
theorem wf_fn {n : Nat} {kio : Option Nat} {body : DL.Env → Fl} {ds : List D} {E : Exn → Option D → Prop} {P : D → Option D → Prop} : WF E P (fnD n kio body ds) = WP ⟨fun ρ => P .non (ioOf kio ρ), fun d ρ => P d (ioOf kio ρ), fun _ => False, fun _ => False, fun e ρ => E e (ioOf kio ρ)⟩ (body (ds.map some ++ List.replicate (n - ds.length) none)) := by
  unfold fnD
  cases body (ds.map some ++ List.replicate (n - ds.length) none) <;> rfl
section
variable {i j : Int} {a b : Bool} {P : D → Prop}
@[simp] theorem o_add : SO (gAdd (.a (.int i)) (.a (.int j))) P = P (.a (.int (i + j))) := rfl
@[simp] theorem o_sub : SO (gSub (.a (.int i)) (.a (.int j))) P = P (.a (.int (i - j))) := rfl
@[simp] theorem o_mul : SO (gMul (.a (.int i)) (.a (.int j))) P = (mulOk i j = true ∧ P (.a (.int (i * j)))) := by
  unfold gMul gOr gMulI gII
  cases h : mulOk i j <;> simp [h, gRep]
@[simp] theorem o_fdiv : SO (gFdiv (.a (.int i)) (.a (.int j))) P = (divOk i j = true ∧ P (.a (.int (i / j)))) := by
  unfold gFdiv gII
  cases h : divOk i j <;> simp [h]
@[simp] theorem o_mod : SO (gMod (.a (.int i)) (.a (.int j))) P = (0 < j ∧ P (.a (.int (i % j)))) := by
  unfold gMod gII
  by_cases h : 0 < j <;> simp [h]
@[simp] theorem o_shl : SO (gShl (.a (.int i)) (.a (.int j))) P = (powOk i j = true ∧ P (.a (.int (i * 2 ^ j.toNat)))) := by
  unfold gShl gII
  cases h : powOk i j <;> simp [h]
@[simp] theorem o_shr : SO (gShr (.a (.int i)) (.a (.int j))) P = (0 ≤ j ∧ P (.a (.int (i / 2 ^ j.toNat)))) := by
  unfold gShr gII
  by_cases h : 0 ≤ j <;> simp [h]
@[simp] theorem o_and : SO (gAnd (.a (.int i)) (.a (.int j))) P = P (.a (.int (Builtin.bitAnd i j))) := rfl
@[simp] theorem o_or : SO (gOrB (.a (.int i)) (.a (.int j))) P = P (.a (.int (Builtin.bitOr i j))) := rfl
@[simp] theorem o_lt : SO (gLt (.a (.int i)) (.a (.int j))) P = P (.a (.bl (decide (i < j)))) := rfl
@[simp] theorem o_le : SO (gLe (.a (.int i)) (.a (.int j))) P = P (.a (.bl (decide (i ≤ j)))) := rfl
@[simp] theorem o_gt : SO (gGt (.a (.int i)) (.a (.int j))) P = P (.a (.bl (decide (j < i)))) := rfl
@[simp] theorem o_ge : SO (gGe (.a (.int i)) (.a (.int j))) P = P (.a (.bl (decide (j ≤ i)))) := rfl
@[simp] theorem o_eqI : SO (gEq (.a (.int i)) (.a (.int j))) P = P (.a (.bl (decide (i = j)))) := by
  show P (.a (.bl (decide (At.int i = At.int j)))) = _
  congr 3
  simp
@[simp] theorem o_neI : SO (gNe (.a (.int i)) (.a (.int j))) P = P (.a (.bl (!decide (i = j)))) := by
  show P (.a (.bl (!decide (At.int i = At.int j)))) = _
  congr 4
  simp
@[simp] theorem o_eqB : SO (gEq (.a (.bl a)) (.a (.bl b))) P = P (.a (.bl (decide (a = b)))) := by
  show P (.a (.bl (decide (At.bl a = At.bl b)))) = _
  congr 3
  simp
@[simp] theorem o_neB : SO (gNe (.a (.bl a)) (.a (.bl b))) P = P (.a (.bl (!decide (a = b)))) := by
  show P (.a (.bl (!decide (At.bl a = At.bl b)))) = _
  congr 4
  simp
@[simp] theorem o_abs : SO (gAbs (.a (.int i))) P = P (.a (.int (if i < 0 then -i else i))) := rfl
@[simp] theorem o_neg : SO (gNeg (.a (.int i))) P = P (.a (.int (-i))) := rfl
@[simp] theorem o_int : SO (gInt (.a (.int i))) P = P (.a (.int i)) := rfl
@[simp] theorem o_bits : SO (gBits (.a (.int i))) P = P (.a (.int (Builtin.Int.intBits i : Nat))) := rfl
@[simp] theorem o_lenL {o : Bool} {xs : List D} : SO (gLen (.n .lst o xs)) P = P (.a (.int xs.length)) := rfl
@[simp] theorem o_lenT {o : Bool} {xs : List D} : SO (gLen (.n .tup o xs)) P = P (.a (.int xs.length)) := rfl
@[simp] theorem o_tupT {o : Bool} {xs : List D} : SO (gTuple (.n .tup o xs)) P = P (.tup xs) := rfl
@[simp] theorem o_tupL {o : Bool} {xs : List D} : SO (gTuple (.n .lst o xs)) P = (isFL xs = true ∧ P (.tup xs)) := by
  unfold gTuple
  cases h : isFL xs <;> simp [h]
@[simp] theorem o_isi {T : String} {d : D} {t : String} (h : tyN d = some t) : SO (gIsi T d) P = P (.a (.bl (isiT t T))) := by
  unfold gIsi
  rw [h]; rfl
@[simp] theorem o_lrng : SO (gLRng (.a (.int i))) P = ((-4611686018427387904 ≤ i ∧ i ≤ 16777216) ∧ P (.lst true (intL 0 i.toNat))) := by
  unfold gLRng
  by_cases h : -4611686018427387904 ≤ i ∧ i ≤ 16777216 <;> simp [h]
end
@[simp] theorem isFL_nil : isFL [] = true := rfl
@[simp] theorem isFL_cons {x : D} {xs : List D} : isFL (x :: xs) = (isF x && isFL xs) := rfl
@[simp] theorem isF_a {x : At} : isF (.a x) = true := rfl
@[simp] theorem isF_n {k : Kd} {o : Bool} {xs : List D} : isF (.n k o xs) = (!o && isFL xs) := rfl
theorem isFL_all : ∀ {xs : List D}, isFL xs = true ↔ ∀ x ∈ xs, isF x = true
  | [] => by simp
  | x :: xs => by simp [isFL_all (xs := xs)]
@[simp] theorem isFL_map {α : Type} {f : α → D} {l : List α} (h : ∀ x, isF (f x) = true) : isFL (l.map f) = true := isFL_all.mpr fun x hx => by
  obtain ⟨y, _, e⟩ := List.mem_map.mp hx
  rw [← e]; exact h y
@[simp] theorem frzL_nil : frzL [] = [] := rfl
@[simp] theorem frzL_cons {x : D} {xs : List D} : frzL (x :: xs) = frz x :: frzL xs := rfl
@[simp] theorem frzL_map {α : Type} {f : α → D} {l : List α} (h : ∀ x, isF (f x) = true) : frzL (l.map f) = l.map f := frzL_isFL _ (isFL_map h)
@[simp] theorem frzL_ints {l : List Int} : frzL (l.map D.int) = l.map D.int := frzL_map fun _ => rfl
@[simp] theorem isFL_ints {l : List Int} : isFL (l.map D.int) = true := isFL_map fun _ => rfl
@[simp] theorem capv : cap = 1000000 := rfl
@[simp] theorem frz_a {x : At} : frz (.a x) = .a x := rfl
@[simp] theorem frz_n {k : Kd} {o : Bool} {xs : List D} : frz (.n k o xs) = .n k false (frzL xs) := rfl
@[simp] theorem agL_nil : agL [] = some [] := rfl
@[simp] theorem agL_cons {x : D} {xs : List Ag} : agL (.d x :: xs) = (agL xs).map (x :: ·) := rfl
@[simp] theorem agL1_s {i : Nat} {xs : List Ag} : agL1 (.s i :: xs) = (agL xs).map fun p => ([], i, p) := rfl
@[simp] theorem agL1_d {x : D} {xs : List Ag} : agL1 (.d x :: xs) = (agL1 xs).map fun p => (x :: p.1, p.2) := rfl
@[simp] theorem q_C {x : At} {ρ : DL.Env} : qC x ρ = some x := rfl
section
variable {Q : Ps} {ρ : DL.Env} {C f : Str} {ok : At → Bool} {e : Exn}
@[simp] theorem p_exr : WP Q (.ex e ρ) = Q.ex e ρ := rfl
@[simp] theorem p_Raise : WP Q (dRaise C ρ) = Q.ex ⟨C, []⟩ ρ := rfl
@[simp] theorem p_stRaise {x : At} : WP Q (stRaise C f ok (.a x) ρ) = (ok x = true ∧ Q.ex ⟨C, [(f, x)]⟩ ρ) := by
  unfold stRaise
  cases h : ok x <;> simp [h, WP]
@[simp] theorem p_Try {b : DL.Env → Fl} {hs : List Hd} : WP Q (dTry b hs ρ) = WP ⟨Q.nx, Q.rt, Q.bk, Q.ct, fun e ρ1 => WP Q (dCatch hs e ρ1)⟩ (b ρ) := by
  unfold dTry
  cases b ρ <;> rfl
@[simp] theorem p_catch0 : WP Q (dCatch [] e ρ) = Q.ex e ρ := rfl
@[simp] theorem p_hRet {i : Nat} {g : Exn → Option At} : WP Q (hRet i g e ρ) = SO (g e) fun x => i < ρ.length ∧ Q.rt (.a x) (ρ.set i none) := by
  unfold hRet
  cases g e with
  | none => rfl
  | some x =>
    dsimp only [so_some]
    split
    · rename_i h; simp [h]
    · rename_i h; simp [h, WP]
end
@[simp] theorem sF_one {C f : Str} {x : At} : sF C f ⟨C, [(f, x)]⟩ = some x := by simp [sF, List.lookup]
@[simp] theorem o_eqS {a b : Str} {P : D → Prop} : SO (gEq (.a (.str a)) (.a (.str b))) P = P (.a (.bl (decide (a = b)))) := by
  show P (.a (.bl (decide (At.str a = At.str b)))) = _
  congr 3
  simp
@[simp] theorem o_neS {a b : Str} {P : D → Prop} : SO (gNe (.a (.str a)) (.a (.str b))) P = P (.a (.bl (!decide (a = b)))) := by
  show P (.a (.bl (!decide (At.str a = At.str b)))) = _
  congr 4
  simp
@[simp] theorem o_isiA_ins {C C' : Str} {fs : List Str} {o : Bool} {xs : List D} {P : D → Prop} : SO (gIsiA C (.n (.ins C' fs) o xs)) P = (C' = C ∧ P (.a (.bl true))) := by
  unfold gIsiA
  by_cases h : C' = C <;> simp [h]
section
variable {E : Exn → DL.Env → Prop} {P : D → DL.Env → Prop} {PL : List D → DL.Env → Prop} {fa fb : DL.Env → Out D} {ρ : DL.Env} {Q : Ps} {i : Nat}
def asLst (d : D) (P : Bool → List D → Prop) : Prop := match d with
  | .n .lst o xs => P o xs
  | _ => False
@[simp] theorem asLst_lst {o : Bool} {xs : List D} {P : Bool → List D → Prop} : asLst (.n .lst o xs) P = P o xs := rfl
@[simp] theorem w_IndexL : WO E P (dIndexL fa fb ρ) = WO E (fun d1 ρ1 => asLst d1 fun o xs => WO E (fun d2 ρ2 => SO (gIndexL (.n .lst o xs) d2) fun d => P d ρ2) (fb ρ1)) (fa ρ) := by
  unfold dIndexL
  cases fa ρ with
  | st => rfl
  | ex e ρ1 => rfl
  | ok d1 ρ1 =>
    cases d1 with
    | a x => rfl
    | n k o xs =>
      cases k with
      | lst =>
        dsimp only [wo_ok, asLst_lst]
        cases fb ρ1 with
        | st => rfl
        | ex e ρ2 => rfl
        | ok d2 ρ2 =>
          dsimp only [wo_ok]
          cases gIndexL (.n .lst o xs) d2 <;> rfl
      | _ => rfl
@[simp] theorem w_RngD : WO E PL (dRngD fa fb ρ) = WO E (fun d ρ1 => asI d fun i => WO E (fun d2 ρ2 => asI d2 fun j => ((-1000000 ≤ i ∧ i ≤ 1000000) ∧ -1000000 ≤ j ∧ j ≤ 1000000) ∧ PL (intsC i (-1) (i - j).toNat) ρ2) (fb ρ1)) (fa ρ) := by
  unfold dRngD
  cases fa ρ with
  | st => rfl
  | ex e ρ1 => rfl
  | ok d ρ1 =>
    cases d with
    | n _ _ _ => rfl
    | a x =>
      cases x with
      | int i =>
        dsimp only [wo_ok, asI_int]
        cases fb ρ1 with
        | st => rfl
        | ex e ρ2 => rfl
        | ok d2 ρ2 =>
          cases d2 with
          | n _ _ _ => rfl
          | a y =>
            cases y with
            | int j =>
              dsimp only [wo_ok, asI_int]
              split
              · rename_i h; simp [h]
              · rename_i h; simp only [h, false_and]; rfl
            | non => rfl
            | bl b => rfl
            | str s => rfl
      | non => rfl
      | bl b => rfl
      | str s => rfl
@[simp] theorem p_Aug {h : Int → Int → Int} : WP Q (dAug i h fa ρ) = SO (ρ[i]?) (fun o => SO o fun x => asI x fun a => WO Q.ex (fun d ρ1 => asI d fun b => i < ρ1.length ∧ Q.nx (ρ1.set i (some (.a (.int (h a b)))))) (fa ρ)) := by
  unfold dAug
  cases e : ρ[i]? with
  | none => rfl
  | some o =>
    cases o with
    | none => rfl
    | some d =>
      cases d with
      | n _ _ _ => rfl
      | a x =>
        cases x with
        | int a =>
          dsimp only [so_some, asI_int]
          cases fa ρ with
          | st => rfl
          | ex e ρ1 => rfl
          | ok d ρ1 =>
            cases d with
            | n _ _ _ => rfl
            | a y =>
              cases y with
              | int b =>
                dsimp only [wo_ok, asI_int]
                exact p_Set
              | non => rfl
              | bl b => rfl
              | str s => rfl
        | non => rfl
        | bl b => rfl
        | str s => rfl
end
@[simp] theorem o_lenO_lst {C : Str} {F : List D → FR} {o : Bool} {xs : List D} {P : D → Prop} : SO (gLenO C F (.n .lst o xs)) P = P (.a (.int xs.length)) := rfl
@[simp] theorem o_lenO_tup {C : Str} {F : List D → FR} {o : Bool} {xs : List D} {P : D → Prop} : SO (gLenO C F (.n .tup o xs)) P = P (.a (.int xs.length)) := rfl
@[simp] theorem s_tgP2 {g1 g2 : D → DL.Env → Option DL.Env} {o : Bool} {a b : D} {ρ : DL.Env} {P : DL.Env → Prop} : SO (tgP g1 g2 (.n .tup o [a, b]) ρ) P = SO (g1 a ρ) fun ρ1 => SO (g2 b ρ1) P := by
  rw [s_tgP]
  cases g1 a ρ <;> rfl
section
variable {E : Exn → DL.Env → Prop} {P : D → DL.Env → Prop} {fa fb : DL.Env → Out D} {ρ : DL.Env} {C : Str} {F : List D → FR}
@[simp] theorem w_BinO : WO E P (dBinO C F fa fb ρ) = WO E (fun d ρ1 => asIns d fun C1 fs xs => (C1 = C ∧ isFL xs = true) ∧ WO E (fun d2 ρ2 => asIns d2 fun C2 gs ys => (C2 = C ∧ isFL ys = true) ∧ WF (fun e _ => E e ρ2) (fun d _ => P d ρ2) (F [.n (.ins C1 fs) false xs, .n (.ins C2 gs) false ys])) (fb ρ1)) (fa ρ) := by
  unfold dBinO
  cases fa ρ with
  | st => rfl
  | ex e ρ1 => rfl
  | ok d ρ1 =>
    cases d with
    | a x => rfl
    | n k o xs =>
      cases k with
      | ins C1 fs =>
        cases o with
        | true => rfl
        | false =>
          dsimp only [wo_ok, asIns_ins]
          split
          · rename_i h
            simp only [h, and_self, true_and]
            cases fb ρ1 with
            | st => rfl
            | ex e ρ2 => rfl
            | ok d2 ρ2 =>
              cases d2 with
              | a x => rfl
              | n k o ys =>
                cases k with
                | ins C2 gs =>
                  cases o with
                  | true => rfl
                  | false =>
                    dsimp only [wo_ok, asIns_ins]
                    split
                    · rename_i h2
                      simp only [h2, and_self, true_and]
                      cases F _ <;> rfl
                    · rename_i h2; simp only [h2, false_and]; rfl
                | tup => rfl
                | lst => rfl
                | scr => rfl
                | dct ks => rfl
                | xt t => rfl
          · rename_i h; simp only [h, false_and]; rfl
      | tup => rfl
      | lst => rfl
      | scr => rfl
      | dct ks => rfl
      | xt t => rfl
@[simp] theorem w_NegO : WO E P (dNegO C F fa ρ) = WO E (fun d ρ1 => asIns d fun C1 fs xs => (C1 = C ∧ isFL xs = true) ∧ WF (fun e _ => E e ρ1) (fun d _ => P d ρ1) (F [.n (.ins C1 fs) false xs])) (fa ρ) := by
  unfold dNegO
  cases fa ρ with
  | st => rfl
  | ex e ρ1 => rfl
  | ok d ρ1 =>
    cases d with
    | a x => rfl
    | n k o xs =>
      cases k with
      | ins C1 fs =>
        cases o with
        | true => rfl
        | false =>
          dsimp only [wo_ok, asIns_ins]
          split
          · rename_i h
            simp only [h, and_self, true_and]
            cases F _ <;> rfl
          · rename_i h; simp only [h, false_and]; rfl
      | tup => rfl
      | lst => rfl
      | scr => rfl
      | dct ks => rfl
      | xt t => rfl
end
section
variable {E : Exn → DL.Env → Prop} {P : D → DL.Env → Prop} {fa fb fc : DL.Env → Out D} {ρ : DL.Env} {Q : Ps} {i k : Nat} {is : List Nat}
@[simp] theorem w_Tmp : WO E P (dTmp is fa ρ) = WO (fun e _ => E e ρ) (fun d _ => noL d = true ∧ P d ρ) (fa (tmpE is 0 ρ)) := by
  unfold dTmp
  cases fa (tmpE is 0 ρ) with
  | st => rfl
  | ex e ρ1 => rfl
  | ok d ρ1 =>
    dsimp only [wo_ok]
    split
    · rename_i h; simp [h]
    · rename_i h; simp [h, WO]
@[simp] theorem tmpE_nil : tmpE is k [] = [] := rfl
@[simp] theorem tmpE_none : tmpE is k (none :: ρ) = none :: tmpE is (k + 1) ρ := rfl
@[simp] theorem tmpE_some {d : D} : tmpE is k (some d :: ρ) = (if k ∈ is ∧ okO d = true then some (frz d) else if isF d = true then some d else none) :: tmpE is (k + 1) ρ := rfl
@[simp] theorem okO_a {x : At} : okO (.a x) = true := rfl
@[simp] theorem okO_lst' {o : Bool} {xs : List D} : okO (.n .lst o xs) = okOL xs := by
  show ((!o || isLs .lst) && okOL xs) = _
  simp [isLs]
@[simp] theorem noL_a {x : At} : noL (.a x) = true := rfl
@[simp] theorem noL_tup {o : Bool} {xs : List D} : noL (.n .tup o xs) = noLL xs := by
  show (isTI .tup && noLL xs) = _
  simp [isTI]
@[simp] theorem noL_ins {C : Str} {fs : List Str} {o : Bool} {xs : List D} : noL (.n (.ins C fs) o xs) = noLL xs := by
  show (isTI (.ins C fs) && noLL xs) = _
  simp [isTI]
@[simp] theorem noLL_nil : noLL [] = true := rfl
@[simp] theorem noLL_cons {x : D} {xs : List D} : noLL (x :: xs) = (noL x && noLL xs) := rfl
@[simp] theorem w_Mv : WO E P (dMv i ρ) = SO (ρ[i]?) (fun o => SO o fun d => P d (ρ.set i none)) := by
  unfold dMv
  split
  · rename_i d h; rw [h]; rfl
  · rename_i h
    cases e : ρ[i]? with
    | none => rfl
    | some o =>
      cases o with
      | none => rfl
      | some d => exact absurd e (h d)
@[simp] theorem w_Pop0 : WO E P (dPop0 i ρ) = SO (ρ[i]?) (fun o => SO o fun x => asL x fun xs => SO (xs[xs.length - 1]?) fun d => P d (ρ.set i (some (.lst true (xs.eraseIdx (xs.length - 1)))))) := by
  unfold dPop0
  split
  · rename_i xs h
    rw [h]
    dsimp only [so_some, asL_lst]
    cases xs[xs.length - 1]? <;> rfl
  · rename_i h
    cases e : ρ[i]? with
    | none => rfl
    | some o =>
      cases o with
      | none => rfl
      | some d =>
        dsimp only [so_some]
        rw [asL_cases fun xs z => h xs (by rw [e, z])]
        rfl
def asDct (d : D) (P : List Key → Bool → List D → Prop) : Prop := match d with
  | .n (.dct ks) o xs => P ks o xs
  | _ => False
@[simp] theorem asDct_dct {ks : List Key} {o : Bool} {xs : List D} {P : List Key → Bool → List D → Prop} : asDct (.n (.dct ks) o xs) P = P ks o xs := rfl
theorem asDct_cases {d : D} {P : List Key → Bool → List D → Prop} (h : ∀ ks o xs, d ≠ .n (.dct ks) o xs) : asDct d P = False := by
  cases d with
  | a x => rfl
  | n k o xs =>
    cases k with
    | dct ks => exact absurd rfl (h ks o xs)
    | _ => rfl
def asKey (d : D) (P : Key → Prop) : Prop := match d with
  | .a x => SO (keyOf x) P
  | _ => False
@[simp] theorem asKey_int {j : Int} {P : Key → Prop} : asKey (.a (.int j)) P = P (.inl j) := rfl
@[simp] theorem asKey_str {s : Str} {P : Key → Prop} : asKey (.a (.str s)) P = P (.inr s) := rfl
@[simp] theorem w_DGet : WO E P (dDGet i fb ρ) = SO (ρ[i]?) (fun o => SO o fun x => asDct x fun _ _ _ => WO E (fun d ρ1 => asKey d fun k => SO (ρ1[i]?) fun o => SO o fun y => asDct y fun ks _ xs => SO (dctAt ks xs k) fun d => isF d = true ∧ P d ρ1) (fb ρ)) := by
  unfold dDGet
  split
  · rename_i k0 o0 xs0 h
    rw [h]
    dsimp only [so_some, asDct_dct]
    cases fb ρ with
    | st => rfl
    | ex e ρ1 => rfl
    | ok d ρ1 =>
      cases d with
      | n _ _ _ => rfl
      | a x =>
        dsimp only [wo_ok, asKey]
        cases keyOf x with
        | none => rfl
        | some k =>
          dsimp only [so_some]
          split
          · rename_i ks o1 xs hx
            rw [hx]
            dsimp only [so_some, asDct_dct]
            cases dctAt ks xs k with
            | none => rfl
            | some d =>
              dsimp only [so_some]
              split
              · rename_i hf; simp [hf]
              · rename_i hf; simp [hf, WO]
          · rename_i hx
            cases e : ρ1[i]? with
            | none => rfl
            | some o =>
              cases o with
              | none => rfl
              | some y =>
                dsimp only [so_some]
                rw [asDct_cases fun ks o xs z => hx ks o xs (by rw [e, z])]
                rfl
  · rename_i h
    cases e : ρ[i]? with
    | none => rfl
    | some o =>
      cases o with
      | none => rfl
      | some y =>
        dsimp only [so_some]
        rw [asDct_cases fun ks o xs z => h ks o xs (by rw [e, z])]
        rfl
@[simp] theorem w_DIn {neg : Bool} : WO E P (dDIn neg i fb ρ) = WO E (fun d ρ1 => asKey d fun k => SO (ρ1[i]?) fun o => SO o fun y => asDct y fun ks _ xs => ks.length = xs.length ∧ P (.a (.bl (if neg then !hasK k ks else hasK k ks))) ρ1) (fb ρ) := by
  unfold dDIn
  cases fb ρ with
  | st => rfl
  | ex e ρ1 => rfl
  | ok d ρ1 =>
    cases d with
    | n _ _ _ => rfl
    | a x =>
      dsimp only [wo_ok, asKey]
      cases keyOf x with
      | none => rfl
      | some k =>
        dsimp only [so_some]
        split
        · rename_i ks o1 xs hx
          rw [hx]
          dsimp only [so_some, asDct_dct]
          split
          · rename_i hf; simp [hf]
          · rename_i hf; simp [hf, WO]
        · rename_i hx
          cases e : ρ1[i]? with
          | none => rfl
          | some o =>
            cases o with
            | none => rfl
            | some y =>
              dsimp only [so_some]
              rw [asDct_cases fun ks o xs z => hx ks o xs (by rw [e, z])]
              rfl
@[simp] theorem w_DGet2 : WO E P (dDGet2 i fb fc ρ) = SO (ρ[i]?) (fun o => SO o fun x => asDct x fun _ _ _ => WO E (fun d ρ1 => (∃ x, d = .a x) ∧ WO E (fun c ρ2 => asKey d fun k => SO (ρ2[i]?) fun o => SO o fun y => asDct y fun ks _ xs => isF c = true ∧ (match dctAt ks xs k with | some d => isF d = true ∧ P d ρ2 | none => P c ρ2)) (fc ρ1)) (fb ρ)) := by
  unfold dDGet2
  split
  · rename_i k0 o0 xs0 h
    rw [h]
    dsimp only [so_some, asDct_dct]
    cases fb ρ with
    | st => rfl
    | ex e ρ1 => rfl
    | ok d ρ1 =>
      cases d with
      | n _ _ _ => simp [WO]
      | a x =>
        simp only [wo_ok, D.a.injEq, exists_eq', true_and]
        cases fc ρ1 with
        | st => rfl
        | ex e ρ2 => rfl
        | ok c ρ2 =>
          dsimp only [wo_ok, asKey]
          cases keyOf x with
          | none => rfl
          | some k =>
            dsimp only [so_some]
            split
            · rename_i ks o1 xs hx
              rw [hx]
              dsimp only [so_some, asDct_dct]
              cases dctAt ks xs k with
              | none =>
                dsimp only
                split
                · rename_i hf; simp [hf]
                · rename_i hf; simp [hf, WO]
              | some d =>
                dsimp only
                split
                · rename_i hf; simp [hf.1, hf.2]
                · rename_i hf
                  simp only [WO]
                  symm
                  rw [eq_iff_iff, iff_false]
                  exact fun q => hf ⟨q.2.1, q.1⟩
            · rename_i hx
              cases e : ρ2[i]? with
              | none => rfl
              | some o =>
                cases o with
                | none => rfl
                | some y =>
                  dsimp only [so_some]
                  rw [asDct_cases fun ks o xs z => hx ks o xs (by rw [e, z])]
                  rfl
  · rename_i h
    cases e : ρ[i]? with
    | none => rfl
    | some o =>
      cases o with
      | none => rfl
      | some y =>
        dsimp only [so_some]
        rw [asDct_cases fun ks o xs z => h ks o xs (by rw [e, z])]
        rfl
@[simp] theorem p_DPut {d : D} : WP Q (stDPut i fb d ρ) = SO (ρ[i]?) (fun o => SO o fun x => asDct x fun _ o0 _ => o0 = true ∧ WO Q.ex (fun k ρ2 => asKey k fun k => SO (ρ2[i]?) fun o => SO o fun y => asDct y fun ks o xs => o = true ∧ (((isF d = true ∧ isFL xs = true) ∧ xs.length < cap) ∧ Q.nx (ρ2.set i (some (.n (.dct (putKs ks k)) true (putXs ks xs k d)))))) (fb ρ)) := by
  unfold stDPut
  split
  · rename_i k0 xs0 h
    rw [h]
    simp only [so_some, asDct_dct, true_and]
    cases fb ρ with
    | st => rfl
    | ex e ρ1 => rfl
    | ok dk ρ1 =>
      cases dk with
      | n _ _ _ => rfl
      | a x =>
        dsimp only [wo_ok, asKey]
        cases keyOf x with
        | none => rfl
        | some k =>
          dsimp only [so_some]
          split
          · rename_i ks xs hx
            rw [hx]
            simp only [so_some, asDct_dct, true_and]
            split
            · rename_i hf; simp [hf]
            · rename_i hf
              simp only [WP]
              symm
              rw [eq_iff_iff, iff_false]
              exact fun q => hf q.1
          · rename_i hx
            cases e : ρ1[i]? with
            | none => rfl
            | some o =>
              cases o with
              | none => rfl
              | some y =>
                dsimp only [so_some]
                by_cases hy : ∃ ks xs, y = .n (.dct ks) true xs
                · obtain ⟨ks, xs, rfl⟩ := hy
                  exact absurd e (hx ks xs)
                · cases y with
                  | a x => rfl
                  | n kk oo xs =>
                    cases kk with
                    | dct ks =>
                      cases oo with
                      | true => exact absurd ⟨ks, xs, rfl⟩ hy
                      | false => simp [WP]
                    | _ => rfl
  · rename_i h
    cases e : ρ[i]? with
    | none => rfl
    | some o =>
      cases o with
      | none => rfl
      | some y =>
        dsimp only [so_some]
        cases y with
        | a x => rfl
        | n kk oo xs =>
          cases kk with
          | dct ks =>
            cases oo with
            | true => exact absurd e (h ks xs)
            | false => simp [WP]
          | _ => rfl
@[simp] theorem o_lenD {ks : List Key} {o : Bool} {xs : List D} {P : D → Prop} : SO (gLenD (.n (.dct ks) o xs)) P = P (.a (.int xs.length)) := rfl
@[simp] theorem w_Disp1 : WO E P (dDisp1 fb fc ρ) = WO E (fun d ρ1 => (∃ x, d = .a x) ∧ WO E (fun c ρ2 => asKey d fun k => isF c = true ∧ P (.n (.dct [k]) true [c]) ρ2) (fc ρ1)) (fb ρ) := by
  unfold dDisp1
  cases fb ρ with
  | st => rfl
  | ex e ρ1 => rfl
  | ok d ρ1 =>
    cases d with
    | n _ _ _ => simp [WO]
    | a x =>
      simp only [wo_ok, D.a.injEq, exists_eq', true_and]
      cases fc ρ1 with
      | st => rfl
      | ex e ρ2 => rfl
      | ok c ρ2 =>
        dsimp only [wo_ok, asKey]
        cases keyOf x with
        | none => rfl
        | some k =>
          dsimp only [so_some]
          split
          · rename_i hf; simp [hf]
          · rename_i hf; simp [hf, WO]
@[simp] theorem p_FzB {f : DL.Env → Fl} {d : D} (h : ρ[i]? = some (some d)) : WP Q (dFzB i f ρ) = WP Q (f (ρ.set i (some (frz d)))) := by
  unfold dFzB
  rw [h]
end
@[simp] theorem w_DGetE {E : Exn → DL.Env → Prop} {P : D → DL.Env → Prop} {fa fb : DL.Env → Out D} {ρ : DL.Env} : WO E P (dDGetE fa fb ρ) = WO E (fun d1 ρ1 => asDct d1 fun ks _ xs => WO E (fun d ρ2 => asKey d fun k => SO (dctAt ks xs k) fun d => isF d = true ∧ P d ρ2) (fb ρ1)) (fa ρ) := by
  unfold dDGetE
  cases fa ρ with
  | st => rfl
  | ex e ρ1 => rfl
  | ok d1 ρ1 =>
    cases d1 with
    | a x => rfl
    | n kk o xs =>
      cases kk <;> first
        | rfl
        | (dsimp only [wo_ok, asDct]
           cases fb ρ1 with
           | st => rfl
           | ex e ρ2 => rfl
           | ok d ρ2 =>
             cases d with
             | n _ _ _ => rfl
             | a x =>
               dsimp only [wo_ok, asKey]
               cases keyOf x with
               | none => rfl
               | some k =>
                 dsimp only [so_some]
                 cases dctAt _ xs k with
                 | none => rfl
                 | some d =>
                   dsimp only [so_some]
                   split
                   · rename_i h; simp [h]
                   · rename_i h; simp [h]; exact fun h => h)
@[simp] theorem o_trng {i : Int} {P : D → Prop} : SO (gTRng (.a (.int i))) P = ((-4611686018427387904 ≤ i ∧ i ≤ 16777216) ∧ P (.tup (intL 0 i.toNat))) := by
  unfold gTRng
  by_cases h : -4611686018427387904 ≤ i ∧ i ≤ 16777216 <;> simp [h]
@[simp] theorem o_divm {i j : Int} {P : D → Prop} : SO (gDivm (.a (.int i)) (.a (.int j))) P = ((0 < j ∧ j < 1073741824) ∧ P (.tup [.int (i / j), .int (i % j)])) := by
  unfold gDivm
  by_cases h : 0 < j ∧ j < 1073741824 <;> simp [h]
end DL
namespace DC
open PySem L2 DL
def B_law_state : DL.Env → Fl :=
  (dSeq (dBind (dC (.int 0)) (stSet 1))
  (dSeq (dBind (dC (.int 1)) (stSet 2))
  (dSeq (dFor (dIter (dFz (dSl (dVar 0) none (some (dC (.int 63)))))) (tg1 3) (dSeq (dBind (dOp2 gAdd (dOp2 gMul (dVar 1) (dC (.int 1000003))) (dU gAbs (dVar 3))) (stSet 1))
  (dBind (dOp2 gMod (dU gInt (dOp2 gAdd (dOp2 gMul (dVar 2) (dC (.int 48271))) (dVar 3))) (dC (.int 2147483647))) (stSet 2))))
  (dBind (dLst (dACons (dVar 1) (dACons (dVar 2) dANil))) fun d ρ => .rt d ρ))))
def F_law_state : List D → FR := fnD 4 none B_law_state
def B_law_take : DL.Env → Fl :=
  (dSeq (dIf (dB (dOp2 gGt (dIxV 0 (dC (.int 0))) (dC (.int 0)))) (dSeq (dBind (dOp2 gMod (dU gInt (dIxP (dPeek 0) (qC (.int 0)))) (dVar 1)) (stSet 2))
  (dSeq (dBind (dOp2 gFdiv (dIxV 0 (dC (.int 0))) (dVar 1)) (stSub 0 (dC (.int 0))))
  (dBind (dVar 2) fun d ρ => .rt d ρ))) dNext)
  (dSeq (dBind (dOp2 gMod (dU gInt (dOp2 gAdd (dOp2 gMul (dIxV 0 (dC (.int 1))) (dC (.int 48271))) (dC (.int 11)))) (dC (.int 2147483647))) (stSub 0 (dC (.int 1))))
  (dBind (dOp2 gMod (dU gInt (dOp2 gFdiv (dIxV 0 (dC (.int 1))) (dC (.int 7)))) (dVar 1)) fun d ρ => .rt d ρ)))
def F_law_take : List D → FR := fnD 3 (some 0) B_law_take
def B_has : DL.Env → Fl :=
  (dBind (dOp2 gEq (dOp2 gAnd (dOp2 gShr (dVar 0) (dVar 1)) (dC (.int 1))) (dC (.int 1))) fun d ρ => .rt d ρ)
def F_has : List D → FR := fnD 2 none B_has
def B_u_closed : DL.Env → Fl :=
  (dSeq (dBind (dOp2 gMul (dLst (dACons (dC (.int 0)) dANil)) (dVar 0)) (stSet 2))
  (dSeq (dFor (dIter (dVar 1)) (tgT [3, 4]) (dBind (dOp2 gOrB (dIxV 2 (dVar 3)) (dOp2 gShl (dC (.int 1)) (dVar 4))) (stSub 2 (dVar 3))))
  (dSeq (dFrz 2 (dFor (dRng1 (dVar 0)) (tg1 4) (dFor (dRng1 (dVar 0)) (tg1 3) (dIf (dB (dCall 2 F_has (dACons (dIxV 2 (dVar 3)) (dACons (dVar 4) dANil)))) (dBind (dOp2 gOrB (dIxV 2 (dVar 3)) (dIxV 2 (dVar 4))) (stSub 2 (dVar 3))) dNext))))
  (dSeq (dFor (dRng1 (dVar 0)) (tg1 3) (dIf (dB (dCall 2 F_has (dACons (dOp2 gIx (dVar 2) (dVar 3)) (dACons (dVar 3) dANil)))) (dBind (dC (.str "cycle")) (stRaise "Refused" "reason" DL.okStr)) dNext))
  (dBind (dU gTuple (dVar 2)) fun d ρ => .rt d ρ)))))
def F_u_closed : List D → FR := fnD 5 none B_u_closed
def B_is_integer : DL.Env → Fl :=
  (dBind (dAndV (dU (gIsi "int") (dVar 0)) (dNotV (dU (gIsi "bool") (dVar 0)))) fun d ρ => .rt d ρ)
def F_is_integer : List D → FR := fnD 1 none B_is_integer
def B_u_checked_pairs : DL.Env → Fl :=
  (dSeq (dIf (dNotT (dB (dU (gIsi2 "list" "tuple") (dVar 1)))) (dRaise "Malformed") dNext)
  (dSeq (dBind (dLst dANil) (stSet 2))
  (dSeq (dFrz 2 (dFor (dIter (dVar 1)) (tg1 3) (dSeq (dIf (dOrT (dNotT (dB (dU (gIsi "tuple") (dVar 3)))) (dB (dOp2 gNe (dU gLen (dVar 3)) (dC (.int 2))))) (dRaise "Malformed") dNext)
  (dSeq (dFor (dIter (dVar 3)) (tg1 4) (dIf (dOrT (dNotT (dB (dCall 1 F_is_integer (dACons (dVar 4) dANil)))) (dOrT (dB (dOp2 gLt (dVar 4) (dC (.int 0)))) (dB (dOp2 gGe (dVar 4) (dVar 0))))) (dRaise "Malformed") dNext))
  (dHas 2 (dBind (dVar 3) (stApp 2)))))))
  (dBind (dVar 2) fun d ρ => .rt d ρ))))
def F_u_checked_pairs : List D → FR := fnD 5 none B_u_checked_pairs
def B_OrderU_initU : DL.Env → Fl :=
  (dSeq (dIf (dOrT (dNotT (dB (dCall 1 F_is_integer (dACons (dVar 1) dANil)))) (dB (dOp2 gLt (dVar 1) (dC (.int 0))))) (dRaise "Malformed") dNext)
  (dSeq (dIf (dB (dOp2 gGt (dVar 1) (dC (.int 10)))) (dBind (dC (.str "large")) (stRaise "Refused" "reason" DL.okStr)) dNext)
  (dSeq (dBind (dVar 1) (stFld "Order" "n" 0))
  (dBind (dCall 2 F_u_closed (dACons (dVar 1) (dACons (dCall 2 F_u_checked_pairs (dACons (dVar 1) (dACons (dVar 2) dANil))) dANil))) (stFld "Order" "above" 0)))))
def F_OrderU_initU : List D → FR := fnD 3 (some 0) B_OrderU_initU
def B_members : DL.Env → Fl :=
  (dBind (dU gTuple (dLc [1] (dRng1 (dU gBits (dVar 0))) (tg1 1) (dB (dOp2 gEq (dOp2 gAnd (dOp2 gShr (dVar 0) (dVar 1)) (dC (.int 1))) (dC (.int 1)))) (dVar 1))) fun d ρ => .rt d ρ)
def F_members : List D → FR := fnD 2 none B_members
def B_Order_at_most : DL.Env → Fl :=
  (dBind (dOrV (dOp2 gEq (dVar 1) (dVar 2)) (dCall 2 F_has (dACons (dOp2 gIx (dU (gFld "above") (dVar 0)) (dVar 1)) (dACons (dVar 2) dANil)))) fun d ρ => .rt d ρ)
def F_Order_at_most : List D → FR := fnD 3 none B_Order_at_most
def B_Order_pairs : DL.Env → Fl :=
  (dSeq (dBind (dLst dANil) (stSet 1))
  (dSeq (dFrz 1 (dFor (dRng1 (dU (gFld "n") (dVar 0))) (tg1 2) (dFor (dIter (dCall 1 F_members (dACons (dOp2 gIx (dU (gFld "above") (dVar 0)) (dVar 2)) dANil))) (tg1 3) (dHas 1 (dBind (dTup (dACons (dVar 2) (dACons (dVar 3) dANil))) (stApp 1))))))
  (dBind (dU gTuple (dVar 1)) fun d ρ => .rt d ρ)))
def F_Order_pairs : List D → FR := fnD 4 none B_Order_pairs
def B_set_of : DL.Env → Fl :=
  (dSeq (dBind (dC (.int 0)) (stSet 1))
  (dSeq (dFor (dIter (dVar 0)) (tg1 2) (dBind (dOp2 gOrB (dVar 1) (dOp2 gShl (dC (.int 1)) (dVar 2))) (stSet 1)))
  (dBind (dVar 1) fun d ρ => .rt d ρ)))
def F_set_of : List D → FR := fnD 3 none B_set_of
def B_Order_below : DL.Env → Fl :=
  (dBind (dU gTuple (dLc [1] (dRng1 (dU (gFld "n") (dVar 0))) (tg1 1) dYes (dCall 1 F_set_of (dACons (dLc [2] (dRng1 (dU (gFld "n") (dVar 0))) (tg1 2) (dB (dCall 2 F_has (dACons (dOp2 gIx (dU (gFld "above") (dVar 0)) (dVar 2)) (dACons (dVar 1) dANil)))) (dVar 2)) dANil)))) fun d ρ => .rt d ρ)
def F_Order_below : List D → FR := fnD 3 none B_Order_below
def B_Order_size : DL.Env → Fl :=
  (dBind (dU (gFld "n") (dVar 0)) fun d ρ => .rt d ρ)
def F_Order_size : List D → FR := fnD 1 none B_Order_size
def B_OrderU_lenU : DL.Env → Fl :=
  (dBind (dU gLen (dU (gFld "above") (dVar 0))) fun d ρ => .rt d ρ)
def F_OrderU_lenU : List D → FR := fnD 1 none B_OrderU_lenU
def B_u_limited : DL.Env → Fl :=
  (dSeq (dIf (dB (dOp2 gGt (dVar 0) (dC (.int 10)))) (dBind (dC (.str "large")) (stRaise "Refused" "reason" DL.okStr)) dNext)
  (dBind (dVar 0) fun d ρ => .rt d ρ))
def F_u_limited : List D → FR := fnD 1 none B_u_limited
def B_u_moved : DL.Env → Fl :=
  (dBind (dLc [2, 3] (dIter (dMeth "Order" "pairs" 0 F_Order_pairs (dVar 0) dANil)) (tgT [2, 3]) dYes (dTup (dACons (dOp2 gAdd (dVar 2) (dVar 1)) (dACons (dOp2 gAdd (dVar 3) (dVar 1)) dANil)))) fun d ρ => .rt d ρ)
def F_u_moved : List D → FR := fnD 4 none B_u_moved
def B_lexicographic_sum : DL.Env → Fl :=
  (dSeq (dIf (dOrT (dNotT (dB (dU (gIsi2 "list" "tuple") (dVar 1)))) (dB (dOp2 gNe (dU gLen (dVar 1)) (dU (gLenO "Order" F_OrderU_lenU) (dVar 0))))) (dRaise "Malformed") dNext)
  (dSeq (dBind (dLst dANil) (stSet 2))
  (dSeq (dBind (dC (.int 0)) (stSet 3))
  (dSeq (dFrz 2 (dFor (dIter (dVar 1)) (tg1 4) (dSeq (dHas 2 (dBind (dVar 3) (stApp 2)))
  (dBind (dOp2 gAdd (dVar 3) (dU (gLenO "Order" F_OrderU_lenU) (dVar 4))) (stSet 3)))))
  (dSeq (dBind (dLst dANil) (stSet 5))
  (dSeq (dFor (dRng1 (dU (gLenO "Order" F_OrderU_lenU) (dVar 0))) (tg1 6) (dHas 5 (dBind (dCall 2 F_u_moved (dACons (dOp2 gIx (dVar 1) (dVar 6)) (dACons (dOp2 gIx (dVar 2) (dVar 6)) dANil))) (stExt 5))))
  (dSeq (dFrz 5 (dFor (dIter (dMeth "Order" "pairs" 0 F_Order_pairs (dVar 0) dANil)) (tgT [6, 7]) (dFor (dRng1 (dU (gLenO "Order" F_OrderU_lenU) (dOp2 gIx (dVar 1) (dVar 6)))) (tg1 8) (dFor (dRng1 (dU (gLenO "Order" F_OrderU_lenU) (dOp2 gIx (dVar 1) (dVar 7)))) (tg1 9) (dHas 5 (dBind (dTup (dACons (dOp2 gAdd (dOp2 gIx (dVar 2) (dVar 6)) (dVar 8)) (dACons (dOp2 gAdd (dOp2 gIx (dVar 2) (dVar 7)) (dVar 9)) dANil))) (stApp 5)))))))
  (dBind (dMake "Order" 2 F_OrderU_initU (dACons (dCall 1 F_u_limited (dACons (dVar 3) dANil)) (dACons (dVar 5) dANil))) fun d ρ => .rt d ρ))))))))
def F_lexicographic_sum : List D → FR := fnD 10 none B_lexicographic_sum
def B_product : DL.Env → Fl :=
  (dSeq (dBind (dU (gLenO "Order" F_OrderU_lenU) (dVar 1)) (stSet 2))
  (dSeq (dBind (dCall 1 F_u_limited (dACons (dOp2 gMul (dU (gLenO "Order" F_OrderU_lenU) (dVar 0)) (dVar 2)) dANil)) (stSet 3))
  (dSeq (dBind (dLst dANil) (stSet 4))
  (dSeq (dFrz 4 (dFor (dRng1 (dVar 3)) (tg1 5) (dFor (dRng1 (dVar 3)) (tg1 6) (dIf (dAndT (dB (dOp2 gNe (dVar 5) (dVar 6))) (dAndT (dB (dMeth "Order" "at_most" 2 F_Order_at_most (dVar 0) (dACons (dOp2 gFdiv (dVar 5) (dVar 2)) (dACons (dOp2 gFdiv (dVar 6) (dVar 2)) dANil)))) (dB (dMeth "Order" "at_most" 2 F_Order_at_most (dVar 1) (dACons (dOp2 gMod (dVar 5) (dVar 2)) (dACons (dOp2 gMod (dVar 6) (dVar 2)) dANil)))))) (dHas 4 (dBind (dTup (dACons (dVar 5) (dACons (dVar 6) dANil))) (stApp 4))) dNext))))
  (dBind (dMake "Order" 2 F_OrderU_initU (dACons (dVar 3) (dACons (dVar 4) dANil))) fun d ρ => .rt d ρ)))))
def F_product : List D → FR := fnD 7 none B_product
def B_lexicographic : DL.Env → Fl :=
  (dBind (dCall 2 F_lexicographic_sum (dACons (dVar 0) (dACons (dOp2 gMul (dLst (dACons (dVar 1) dANil)) (dU (gLenO "Order" F_OrderU_lenU) (dVar 0))) dANil))) fun d ρ => .rt d ρ)
def F_lexicographic : List D → FR := fnD 2 none B_lexicographic
def B_law_refused : DL.Env → Fl :=
  (dSeq (dTry (dIf (dB (dOp2 gEq (dVar 2) (dC (.int 0)))) (dBind (dCall 2 F_product (dACons (dVar 0) (dACons (dVar 1) dANil))) fun _ ρ => .nx ρ) (dBind (dCall 2 F_lexicographic (dACons (dVar 0) (dACons (dVar 1) dANil))) fun _ ρ => .nx ρ)) ((("Refused" : Str), ([("Malformed", false), ("Refused", true)] : List (Str × Bool)), hRet 3 (sOp gEqA (sF "Refused" "reason") (sC (.str "large")))) :: []))
  (dBind (dC (.bl false)) fun d ρ => .rt d ρ))
def F_law_refused : List D → FR := fnD 4 none B_law_refused
def B_is_part : DL.Env → Fl :=
  (dBind (dOp2 gEq (dOp2 gAnd (dVar 0) (dVar 1)) (dVar 0)) fun d ρ => .rt d ρ)
def F_is_part : List D → FR := fnD 2 none B_is_part
def B_is_set : DL.Env → Fl :=
  (dBind (dAndV (dCall 1 F_is_integer (dACons (dVar 0) dANil)) (dChain gLe gLt (dC (.int 0)) (dVar 0) (dOp2 gShl (dC (.int 1)) (dVar 1)))) fun d ρ => .rt d ρ)
def F_is_set : List D → FR := fnD 2 none B_is_set
def B_ranks : DL.Env → Fl :=
  (dSeq (dBind (dMeth "Order" "below" 0 F_Order_below (dVar 0) dANil) (stSet 1))
  (dSeq (dBind (fun ρ => .ok (.n (.dct []) true []) ρ) (stSet 2))
  (dSeq (dFrz 2 (whL (dB (dOp2 gLt (dU gLenD (dPeek 2)) (dMeth "Order" "size" 0 F_Order_size (dVar 0) dANil))) (dFor (dRng1 (dMeth "Order" "size" 0 F_Order_size (dVar 0) dANil)) (tg1 3) (dSeq (dBind (dCall 1 F_members (dACons (dOp2 gIx (dVar 1) (dVar 3)) dANil)) (stSet 4))
  (dIf (dAndT (dB (dDIn true 2 (dVar 3))) (dB (dU gAll (dLc [5] (dIter (dVar 4)) (tg1 5) dYes (dDIn false 2 (dVar 5)))))) (dBind (dOp2 gAdd (dU gMax1 (dOp2 gAdd (dLst (dACons (dU gNeg (dC (.int 1))) dANil)) (dLc [5] (dIter (dVar 4)) (tg1 5) dYes (dDGet 2 (dVar 5))))) (dC (.int 1))) (stDPut 2 (dVar 3))) dNext))) 100000))
  (dBind (dU gTuple (dLc [3] (dRng1 (dMeth "Order" "size" 0 F_Order_size (dVar 0) dANil)) (tg1 3) dYes (dDGet 2 (dVar 3)))) fun d ρ => .rt d ρ))))
def F_ranks : List D → FR := fnD 6 none B_ranks
def B_length : DL.Env → Fl :=
  (dBind (dOp2 gAdd (dU gMax1 (dOp2 gAdd (dLst (dACons (dU gNeg (dC (.int 1))) dANil)) (dU gList (dCall 1 F_ranks (dACons (dVar 0) dANil))))) (dC (.int 1))) fun d ρ => .rt d ρ)
def F_length : List D → FR := fnD 1 none B_length
def B_closed_above : DL.Env → Fl :=
  (dSeq (dBind (dLc [5] (dRng1 (dVar 0)) (tg1 5) dYes (dC (.int 0))) (stSet 2))
  (dSeq (dFor (dIter (dVar 1)) (tgT [3, 4]) (dBind (dOp2 gOrB (dIxV 2 (dVar 3)) (dOp2 gShl (dC (.int 1)) (dVar 4))) (stSub 2 (dVar 3))))
  (dSeq (dFrz 2 (dFor (dRng1 (dVar 0)) (tg1 4) (dFor (dRng1 (dVar 0)) (tg1 3) (dIf (dB (dCall 2 F_has (dACons (dIxV 2 (dVar 3)) (dACons (dVar 4) dANil)))) (dBind (dOp2 gOrB (dIxV 2 (dVar 3)) (dIxV 2 (dVar 4))) (stSub 2 (dVar 3))) dNext))))
  (dSeq (dFor (dRng1 (dVar 0)) (tg1 3) (dIf (dB (dCall 2 F_has (dACons (dOp2 gIx (dVar 2) (dVar 3)) (dACons (dVar 3) dANil)))) (dBind (dC (.str "cycle")) (stRaise "Refused" "reason" DL.okStr)) dNext))
  (dBind (dU gTuple (dVar 2)) fun d ρ => .rt d ρ)))))
def F_closed_above : List D → FR := fnD 6 none B_closed_above
def B_bounds_table : DL.Env → Fl :=
  (dSeq (dBind (fun ρ => .ok (.n (.dct []) true []) ρ) (stSet 1))
  (dSeq (dFrz 1 (dFor (dRng1 (dU gLen (dVar 0))) (tg1 2) (dBind (dVar 2) (stDPut 1 (dOp2 gIx (dVar 0) (dVar 2))))))
  (dSeq (dBind (dLst dANil) (stSet 3))
  (dSeq (dFrz 3 (dFor (dIter (dVar 0)) (tg1 4) (dSeq (dFrz 5 (dBind (dLc [6] (dIter (dVar 0)) (tg1 6) dYes (dDGet2 1 (dOp2 gAnd (dVar 4) (dVar 6)) (dU gNeg (dC (.int 1))))) (stSet 5)))
  (dSeq (dIf (dB (dOp2 gIn (dU gNeg (dC (.int 1))) (dVar 5))) (dBind (dC .non) fun d ρ => .rt d ρ) dNext)
  (dHas 3 (dBind (dU gTuple (dVar 5)) (stApp 3)))))))
  (dBind (dU gTuple (dVar 3)) fun d ρ => .rt d ρ)))))
def F_bounds_table : List D → FR := fnD 7 none B_bounds_table
def B_checked_pairs : DL.Env → Fl :=
  (dSeq (dIf (dNotT (dB (dU (gIsi2 "list" "tuple") (dVar 1)))) (dRaise "Malformed") dNext)
  (dSeq (dFor (dIter (dVar 1)) (tg1 2) (dSeq (dIf (dOrT (dNotT (dB (dU (gIsi "tuple") (dVar 2)))) (dB (dOp2 gNe (dU gLen (dVar 2)) (dC (.int 2))))) (dRaise "Malformed") dNext)
  (dFor (dIter (dVar 2)) (tg1 3) (dIf (dOrT (dNotT (dB (dCall 1 F_is_integer (dACons (dVar 3) dANil)))) (dOrT (dB (dOp2 gLt (dVar 3) (dC (.int 0)))) (dB (dOp2 gGe (dVar 3) (dVar 0))))) (dRaise "Malformed") dNext))))
  (dBind (dVar 1) fun d ρ => .rt d ρ)))
def F_checked_pairs : List D → FR := fnD 4 none B_checked_pairs
def B_LatticeU_initU : DL.Env → Fl :=
  (dSeq (dIf (dAndT (dB (dCall 1 F_is_integer (dACons (dVar 1) dANil))) (dB (dOp2 gGt (dVar 1) (dC (.int 64))))) (dBind (dC (.str "large")) (stRaise "Refused" "reason" DL.okStr)) dNext)
  (dSeq (dIf (dOrT (dNotT (dB (dCall 1 F_is_integer (dACons (dVar 1) dANil)))) (dB (dOp2 gLt (dVar 1) (dC (.int 0))))) (dRaise "Malformed") dNext)
  (dSeq (dBind (dCall 2 F_closed_above (dACons (dVar 1) (dACons (dCall 2 F_checked_pairs (dACons (dVar 1) (dACons (dVar 2) dANil))) dANil))) (stFld "Lattice" "above" 0))
  (dSeq (dBind (dFz (dLc [5] (dRng1 (dVar 1)) (tg1 5) dYes (dOp2 gOrB (dOp2 gIx (dU (gFld "above") (dPeek 0)) (dVar 5)) (dOp2 gShl (dC (.int 1)) (dVar 5))))) (stSet 3))
  (dSeq (dFrz 4 (dBind (dLc [6] (dRng1 (dVar 1)) (tg1 6) dYes (dCall 1 F_set_of (dACons (dLc [5] (dRng1 (dVar 1)) (tg1 5) (dB (dCall 2 F_has (dACons (dOp2 gIx (dVar 3) (dVar 5)) (dACons (dVar 6) dANil)))) (dVar 5)) dANil))) (stSet 4)))
  (dSeq (dBind (dCall 1 F_bounds_table (dACons (dVar 3) dANil)) (stFld "Lattice" "joins" 0))
  (dSeq (dBind (dCall 1 F_bounds_table (dACons (dVar 4) dANil)) (stFld "Lattice" "meets" 0))
  (dIf (dOrT (dB (dOp2 gEq (dVar 1) (dC (.int 0)))) (dOrT (dB (dOp2 gIs (dU (gFld "joins") (dPeek 0)) (dC .non))) (dB (dOp2 gIs (dU (gFld "meets") (dPeek 0)) (dC .non))))) (dBind (dC (.str "lattice")) (stRaise "Refused" "reason" DL.okStr)) dNext))))))))
def F_LatticeU_initU : List D → FR := fnD 7 (some 0) B_LatticeU_initU
def B_LatticeU_lenU : DL.Env → Fl :=
  (dBind (dU gLen (dU (gFld "above") (dVar 0))) fun d ρ => .rt d ρ)
def F_LatticeU_lenU : List D → FR := fnD 1 none B_LatticeU_lenU
def B_Lattice_covers : DL.Env → Fl :=
  (dSeq (dBind (dLst dANil) (stSet 1))
  (dSeq (dFrz 1 (dFor (dRng1 (dU gLen (dU (gFld "above") (dVar 0)))) (tg1 2) (dSeq (dBind (dC (.int 0)) (stSet 3))
  (dSeq (dFor (dIter (dCall 1 F_members (dACons (dOp2 gIx (dU (gFld "above") (dVar 0)) (dVar 2)) dANil))) (tg1 4) (dBind (dOp2 gOrB (dVar 3) (dOp2 gIx (dU (gFld "above") (dVar 0)) (dVar 4))) (stSet 3)))
  (dHas 1 (dBind (dLc [4] (dIter (dCall 1 F_members (dACons (dOp2 gIx (dU (gFld "above") (dVar 0)) (dVar 2)) dANil))) (tg1 4) (dNotT (dB (dCall 2 F_has (dACons (dVar 3) (dACons (dVar 4) dANil))))) (dTup (dACons (dVar 2) (dACons (dVar 4) dANil)))) (stExt 1)))))))
  (dBind (dU gTuple (dVar 1)) fun d ρ => .rt d ρ)))
def F_Lattice_covers : List D → FR := fnD 5 none B_Lattice_covers
def B_Lattice_joined : DL.Env → Fl :=
  (dBind (dOp2 gIx (dOp2 gIx (dU (gFld "joins") (dVar 0)) (dVar 1)) (dVar 2)) fun d ρ => .rt d ρ)
def F_Lattice_joined : List D → FR := fnD 3 none B_Lattice_joined
def B_Lattice_met : DL.Env → Fl :=
  (dBind (dOp2 gIx (dOp2 gIx (dU (gFld "meets") (dVar 0)) (dVar 1)) (dVar 2)) fun d ρ => .rt d ρ)
def F_Lattice_met : List D → FR := fnD 3 none B_Lattice_met
def B_merged : DL.Env → Fl :=
  (dSeq (dBind (dFz (dTup (dACons (dOp2 gMin2 (dOp2 gIx (dVar 0) (dVar 1)) (dOp2 gIx (dVar 0) (dVar 2))) (dACons (dOp2 gMax2 (dOp2 gIx (dVar 0) (dVar 1)) (dOp2 gIx (dVar 0) (dVar 2))) dANil)))) (stTg (tgT [3, 4])))
  (dBind (dLc [5] (dIter (dVar 0)) (tg1 5) dYes (dIfE (dB (dOp2 gEq (dVar 5) (dVar 4))) (dVar 3) (dVar 5))) fun d ρ => .rt d ρ))
def F_merged : List D → FR := fnD 6 none B_merged
def B_congruence : DL.Env → Fl :=
  (dSeq (dBind (dU gLen (dU (gFld "above") (dVar 0))) (stSet 2))
  (dSeq (dBind (dFz (dU gLRng (dVar 2))) (stSet 3))
  (dSeq (dFor (dIter (dCall 2 F_checked_pairs (dACons (dVar 2) (dACons (dVar 1) dANil)))) (tgT [4, 5]) (dBind (dFz (dCall 3 F_merged (dACons (dVar 3) (dACons (dVar 4) (dACons (dVar 5) dANil))))) (stSet 3)))
  (dSeq (dBind (dC (.bl true)) (stSet 6))
  (dSeq (whL (dB (dVar 6)) (dSeq (dBind (dVar 3) (stSet 7))
  (dSeq (dFor (dRng1 (dVar 2)) (tg1 4) (dFor (dRng1 (dVar 2)) (tg1 8) (dSeq (dBind (dFz (dCall 3 F_merged (dACons (dVar 3) (dACons (dMeth "Lattice" "joined" 2 F_Lattice_joined (dVar 0) (dACons (dVar 4) (dACons (dVar 8) dANil))) (dACons (dMeth "Lattice" "joined" 2 F_Lattice_joined (dVar 0) (dACons (dOp2 gIx (dVar 3) (dVar 4)) (dACons (dVar 8) dANil))) dANil))))) (stSet 3))
  (dBind (dFz (dCall 3 F_merged (dACons (dVar 3) (dACons (dMeth "Lattice" "met" 2 F_Lattice_met (dVar 0) (dACons (dVar 4) (dACons (dVar 8) dANil))) (dACons (dMeth "Lattice" "met" 2 F_Lattice_met (dVar 0) (dACons (dOp2 gIx (dVar 3) (dVar 4)) (dACons (dVar 8) dANil))) dANil))))) (stSet 3)))))
  (dBind (dOp2 gNe (dVar 3) (dVar 7)) (stSet 6)))) 100000)
  (dBind (dU gTuple (dVar 3)) fun d ρ => .rt d ρ))))))
def F_congruence : List D → FR := fnD 9 none B_congruence
end DC
namespace DC
open PySem L2 DL
def B_congruences_v2 : DL.Env → Fl :=
  (dSeq (dBind (dU gLen (dU (gFld "above") (dVar 0))) (stSet 1))
  (dSeq (dIf (dB (dOp2 gGt (dVar 1) (dC (.int 8)))) (dBind (dC (.str "large")) (stRaise "Refused" "reason" DL.okStr)) dNext)
  (dSeq (dBind (dLst (dACons (dU gTRng (dVar 1)) dANil)) (stSet 2))
  (dSeq (dFrz 2 (dFor (dIter (dMeth "Lattice" "covers" 0 F_Lattice_covers (dVar 0) dANil)) (tg1 3) (dFor (dIter (dFz (dU gList (dPeek 2)))) (tg1 4) (dSeq (dFrz 5 (dBind (dLc [7] (dRng1 (dVar 1)) (tg1 7) dYes (dTup (dACons (dVar 7) (dACons (dOp2 gIx (dVar 4) (dVar 7)) dANil)))) (stSet 5)))
  (dSeq (dBind (dCall 2 F_congruence (dACons (dVar 0) (dACons (dOp2 gAdd (dVar 5) (dLst (dACons (dVar 3) dANil))) dANil))) (stSet 6))
  (dIf (dB (dOp2 gNotIn (dVar 6) (dPeek 2))) (dHas 2 (dBind (dVar 6) (stApp 2))) dNext))))))
  (dBind (dU gTuple (dU gSortU (dVar 2))) fun d ρ => .rt d ρ)))))
def F_congruences_v2 : List D → FR := fnD 8 none B_congruences_v2
def B_law_refused_v2 : DL.Env → Fl :=
  (dSeq (dTry (dBind (dCall 1 F_congruences_v2 (dACons (dMake "Lattice" 2 F_LatticeU_initU (dACons (dVar 0) (dACons (dLc [2] (dRng1 (dOp2 gSub (dVar 0) (dC (.int 1)))) (tg1 2) dYes (dTup (dACons (dVar 2) (dACons (dOp2 gAdd (dVar 2) (dC (.int 1))) dANil)))) dANil))) dANil)) fun _ ρ => .nx ρ) ((("Refused" : Str), ([("Malformed", false), ("Refused", true)] : List (Str × Bool)), hRet 1 (sOp gEqA (sF "Refused" "reason") (sC (.str "large")))) :: []))
  (dBind (dC (.bl false)) fun d ρ => .rt d ρ))
def F_law_refused_v2 : List D → FR := fnD 3 none B_law_refused_v2
end DC
namespace DL
open PySem PySem.Spec PySem.W PyProof.Rows L2 GenW
structure Chain (b : Int) (N : Nat) (f : Nat → Int) : Prop where
  z : f 0 = 0
  st : ∀ i, i < N → f (i + 1) = Builtin.bitAnd (f i - b) b
  ne : ∀ i, i < N → f i ≠ b
  en : f N = b
def pProto (L : Addr) (N : Nat) (f : Nat → Int) : Protocol := fun m s₀ v s kap => (∃ t, v = .int (f (N - m)) t) ∧ GenSince L [] s₀ s ∧ ∀ s'' : Shared, (∀ o, s.heap.get? L = some o → s''.heap.get? L = some o) → kap (.send .none) s''
def pFin (L : Addr) : Nat → Shared → Shared → Prop := fun n s₀ s₁ => n = 0 ∧ GenSince L [] s₀ s₁
abbrev pEnd (L : Addr) : GenEnd := fun n s₀ r s₁ => ((r = .ok (.ret .none) ∨ r = .ok .next) ∧ pFin L n s₀ s₁) ∨ ∃ e, r = .error e ∧ (fun (_ : Value) (_ : Shared) => False) e s₁
section
variable {P : Program} {w : World} {A : Around} {env : PySem.Env} {b : Int} {N : Nat} {f : Nat → Int}
variable {p1 p2 p3 p4 p5 p6 p7 p8 p9 p10 p11 p12 p13 p14 p15 p16 p17 p18 p19 p20 : Pos} {j0 : Nat}
abbrev pTest (p4 p5 p6 : Pos) : Expr := .Compare (.Name "part" p4) [.NotEq] [.Name "bits" p5] p6
abbrev pBody (p7 p8 p9 p10 p11 p12 p13 p14 p15 p16 : Pos) : List Stmt := [.Expr (.Yield (some (.Name "part" p7)) p8) p9, .Assign [.Name "part" p10] (.BinOp (.BinOp (.Name "part" p11) .Sub (.Name "bits" p12) p13) .BitAnd (.Name "bits" p14) p15) p16]
structure PEnv (env : PySem.Env) : Prop where
  kind : env.scope.kind = .function
  bits : env.kindOf "bits" = some .local
  part : env.kindOf "part" = some .local
  co : env.scope.isCoroutine = false
  ia : interactive env = false
theorem PEnv.cls (E : PEnv env) : (env.scope.kind == .class || (env.scope.kind == .module && env.locals != env.globals)) = false := by rw [E.kind]; rfl
theorem bitsNe : ¬ (("bits" : Str) = "part") := by decide +kernel
theorem bits_kept {m : Str → Option Value} {v x : Value} (h : m "bits" = some v) : (fun y : Str => if y = "part" then some x else m y) "bits" = some v := by
  show (if ("bits" : Str) = "part" then some x else m "bits") = _
  rw [if_neg bitsNe]
  exact h
theorem seg_pLoop (E : PEnv env) (C : Chain b N f) {fs : List PySem.Frame} (hsp : splitAtGen fs = none) (hgd : fs.any PySem.Frame.guarded = false)
    (cont : ∀ (s₀ s : Shared) (m : Str → Option Value) (t : Tok), s.heap.Ns env.locals m → m "bits" = some (.int b t) → GenSince env.locals [] s₀ s →
      Seg (model P w) A (pEnd env.locals) (pProto env.locals N f) 1 s₀ (.whileLoop (pTest p4 p5 p6) (pBody p7 p8 p9 p10 p11 p12 p13 p14 p15 p16) [] env) (.pure (.done .next)) fs s) :
    ∀ (k j : Nat) (s₀ s : Shared) (m : Str → Option Value) (t u : Tok), N - j = k → j ≤ N → s.heap.Ns env.locals m → m "bits" = some (.int b t) → m "part" = some (.int (f j) u) → GenSince env.locals [] s₀ s →
      Seg (model P w) A (pEnd env.locals) (pProto env.locals N f) (N + 1 - j) s₀ (.whileLoop (pTest p4 p5 p6) (pBody p7 p8 p9 p10 p11 p12 p13 p14 p15 p16) [] env) ((model P w).den (.whileLoop (pTest p4 p5 p6) (pBody p7 p8 p9 p10 p11 p12 p13 p14 p15 p16) [] env)) fs s := by
  intro k
  induction k with
  | zero =>
    intro j s₀ s m t u hk hj hn hb hp hs
    have hjN : j = N := by omega
    subst hjN
    rw [show j + 1 - j = 1 by omega]
    refine seg_whileLoop (wpAny_isTrue_Compare1 (wpAny_Name (wpAny_loadName_local E.kind E.part hn hp (wpAny_Name (wpAny_loadName_local E.kind E.bits hn hb (ne_int (wpAny_truthy_bool ?_))) (by kernel_rfl))) (by kernel_rfl)))
    rw [C.en, show (b != b) = false by simp, if_neg Bool.false_ne_true]
    exact seg_execs_nil (cont s₀ s m t hn hb hs)
  | succ k ih =>
    intro j s₀ s m t u hk hj hn hb hp hs
    have hlt : j < N := by omega
    obtain ⟨n, hnn⟩ : ∃ n, n = N - j := ⟨_, rfl⟩
    rw [show N + 1 - j = n + 1 by omega]
    refine seg_whileLoop (wpAny_isTrue_Compare1 (wpAny_Name (wpAny_loadName_local E.kind E.part hn hp (wpAny_Name (wpAny_loadName_local E.kind E.bits hn hb (ne_int (wpAny_truthy_bool ?_))) (by kernel_rfl))) (by kernel_rfl)))
    rw [show (f j != b) = true by simpa using C.ne j hlt, if_pos rfl]
    refine seg_execs_cons (seg_Expr_Yield hsp rfl hgd (wpAny_Name (wpAny_loadName_local E.kind E.part hn hp fun kap hkap => ⟨⟨u, by rw [show N - n = j by omega]⟩, hs, fun s'' hkeep => hkap .none s'' ?_⟩) (by kernel_rfl)) E.co E.ia)
    have hn2 : s''.heap.Ns env.locals m := hn.at' hkeep
    refine seg_execs_cons (seg_wrap (wpAny_Assign_Name (wpAny_BinOp (wpAny_BinOp (wpAny_Name (wpAny_loadName_local E.kind E.part hn2 hp (wpAny_Name (wpAny_loadName_local E.kind E.bits hn2 hb (sub_int (wpAny_Name (wpAny_loadName_local E.kind E.bits hn2 hb (and_int (wpAny_storeName_local E.part hn2 (fun h' hn' hs' => ?_) E.cls))) (by kernel_rfl)))) (by kernel_rfl))) (by kernel_rfl))))))
    refine seg_execs_nil (seg_again rfl ?_)
    have := ih (j + 1) s'' { s'' with heap := h', toks := s''.toks + 1 + 1 + 1 } _ t _ (by omega) (by omega) hn' (bits_kept hb) (by simp [C.st j hlt]; rfl) (GenSince.step (GenSince.refl _ _ _) fun b o hb _ e => (hs'.2 b hb).trans e)
    rw [show N + 1 - (j + 1) = n by omega] at this
    exact this
theorem seg_parts (E : PEnv env) (C : Chain b N f) (s₀ s : Shared) (m : Str → Option Value) (t : Tok) (hn : s.heap.Ns env.locals m) (hb : m "bits" = some (.int b t)) (hs : GenSince env.locals [] s₀ s) :
    Seg (model P w) A (pEnd env.locals) (pProto env.locals N f) (N + 1) s₀
      (.func [.Assign [.Name "part" p1] (.Constant (.int 0) j0 p2) p3, .While (pTest p4 p5 p6) (pBody p7 p8 p9 p10 p11 p12 p13 p14 p15 p16) [] p17, .Expr (.Yield (some (.Name "bits" p18)) p19) p20] env)
      ((model P w).den (.func [.Assign [.Name "part" p1] (.Constant (.int 0) j0 p2) p3, .While (pTest p4 p5 p6) (pBody p7 p8 p9 p10 p11 p12 p13 p14 p15 p16) [] p17, .Expr (.Yield (some (.Name "bits" p18)) p19) p20] env)) [] s := by
  refine seg_func (seg_execs_cons (seg_wrap (wpAny_Assign_Name (wpAny_Constant_int (wpAny_storeName_local E.part (s := { s with toks := s.toks + 1 }) hn (fun h' hn' hs' => ?_) E.cls)))))
  refine seg_execs_cons (seg_While fun p => ?_)
  have hs2 : GenSince env.locals [] s₀ { s with heap := h', toks := s.toks + 1 + 1 } := hs.step fun b o hb _ e => (hs'.2 b hb).trans e
  refine seg_pLoop E C rfl rfl (fun s₀' s' m' t' hn2 hb2 hs3 => ?_) N 0 s₀ _ _ t _ (by omega) (Nat.zero_le _) hn' (bits_kept hb) (by simp [C.z]; rfl) hs2
  refine seg_leaf (.ok .next) ?_
  refine seg_execs_cons (seg_Expr_Yield rfl rfl rfl (wpAny_Name (wpAny_loadName_local E.kind E.bits hn2 hb2 fun kap hkap => ⟨⟨t', by rw [Nat.sub_zero, C.en]⟩, hs3, fun s'' hkeep => hkap .none s'' ?_⟩) (by kernel_rfl)) E.co E.ia)
  exact seg_execs_nil (seg_end (.ok (.ret .none)) (.inl ⟨.inl rfl, rfl, GenSince.refl _ _ _⟩))
end
end DL
namespace DL
open PySem PySem.Spec PySem.W PyProof.Rows L2 GenW
section
variable {X : Cx} {pins : List (Addr × Obj)} {σ : L2.St} {H : Hp} {s : Shared} {h' : Heap}
theorem inv_turnG {t' : Nat} {g' : Array GenState} {it : Addr} (I : Inv X pins σ H s) (k : ∀ b o, b ≠ it → s.heap.get? b = some o → h'.get? b = some o) (hn : H it = none) (hL : it ≠ X.env.locals)
    (h1 : it ∈ X.ex ∨ X.s_0.heap.objs.size ≤ it) (h2 : ∀ x c, X.env.cells.lookup x = some c → c ≠ it) (h3 : ∀ p ∈ X.pn ++ pins, p.1 ≠ it) (hg : AllBare g') : Inv X pins σ H { s with heap := h', gens := g', toks := t' } := by
  have nit : ∀ b u, H b = some u → b ≠ it := fun b u e z => by rw [z, hn] at e; cases e
  refine I.step (g' := g') (d' := s.drawn) (ch := [it]) (fun b hb => ?_) (fun b o _ _ hc e _ => k b o (fun z => hc (by simp [z])) e) (fun b o _ _ hc e _ => ⟨o.slots, k b o (fun z => hc (by simp [z])) e⟩) (fun _ _ _ _ n => n)
    (fun b o hc e => ⟨o, k b o (fun z => hc (by simp [z])) e⟩) (fun _ _ e => e) (fun _ _ _ e => e) (fun b ps e => ⟨#[], by rw [e]; simp⟩) (fun m hm => ?_) (fun b u e => ?_) hg
  · rw [List.mem_singleton.mp hb]
    exact ⟨h1, hL, h2, h3⟩
  · obtain ⟨o, es, ep, ho, r⟩ := hm
    exact ⟨o, es, ep, k _ o (Ne.symm hL) ho, r⟩
  · refine (I.hok b u e).stay (fun c v hc q => k c v ?_ q) (fun _ q => q) fun _ _ q => q
    rcases hc with z | z
    · rw [z]; exact nit b u e
    · exact nit c _ z
theorem store_blk {M : Model} {A : Around} {E : Value → Shared → Prop} {x : Str} {u : Value} {Q : Unit → Shared → Prop} (I : Inv X pins σ H s) (hk : X.env.kindOf x = some .local) (hx : ∀ (i : Nat) (v : V), X.N[i]? = some x → σ[i]? ≠ some (some v))
    (h : ∀ h', Inv X pins σ H { s with heap := h', toks := s.toks + 1 } → Heap.SameBut X.env.locals s.heap h' → (∃ m, h'.Ns X.env.locals m ∧ m x = some u) → Q () { s with heap := h', toks := s.toks + 1 }) : wpAny M A (storeName X.env x u) Q E s := by
  obtain ⟨m, hn, hl⟩ := id I.loc
  have hcls : (X.env.scope.kind == .class || (X.env.scope.kind == .module && X.env.locals != X.env.globals)) = false := by rw [I.ok.kind]; rfl
  refine wpAny_storeName_local hk hn (fun h' hn' hs => ?_) hcls
  obtain ⟨oL, _, _, hoL, _⟩ := id hn
  have neL : ∀ b o, X.s_0.heap.get? b = some o → b ≠ X.env.locals := fun b o e => Nat.ne_of_lt (Nat.lt_of_lt_of_le (Heap.lt_size e) I.ok.above)
  refine h h' ⟨I.ok, I.os, I.bare, ⟨fun b o e n hb hx => ?_, fun b o e n hb hx => ?_, I.base.free, fun b o e hx => ?_, I.base.tups, I.base.frzs, I.base.tbls⟩, ⟨_, hn', fun j y v' e1 e2 e3 => ?_⟩, fun y c e => ?_, I.free, I.freeC, fun p hp => ?_, fun b ob e => ?_, I.len⟩ hs ⟨_, hn', by simp⟩
  · exact (hs.2 b (neL b o e)).trans (I.base.keep b o e n hb hx)
  · obtain ⟨sl, e1⟩ := I.base.slot b o e n hb hx
    exact ⟨sl, (hs.2 b (neL b o e)).trans e1⟩
  · obtain ⟨o', e1⟩ := I.base.there b o e hx
    exact ⟨o', (hs.2 b (neL b o e)).trans e1⟩
  · obtain ⟨u', r', q⟩ := hl j y v' e1 e2 e3
    refine ⟨u', r', ?_⟩
    have hne : y ≠ x := fun e => hx j v' (by rw [← e]; exact e1) e2
    rcases q with ⟨k, e⟩ | ⟨k, c, e, z⟩
    · exact .inl ⟨k, by simp [hne, e]⟩
    · exact .inr ⟨k, c, e, z.sameBut hs (I.cne y c e)⟩
  · obtain ⟨w', z⟩ := I.cell y c e
    exact ⟨w', z.sameBut hs (I.cne y c e)⟩
  · obtain ⟨e, n, ne, nf, d⟩ := I.pin p hp
    exact ⟨(hs.2 p.1 ne).trans e, n, ne, nf, d⟩
  · refine (I.hok b ob e).stay (fun c w' hc q => (hs.2 c ?_).trans q) (fun _ q => q) fun _ _ q => q
    rintro rfl
    rcases hc with rfl | hc
    · rw [I.free] at e; cases e
    · rw [I.free] at hc; cases hc
end
def IsParts (stb : List Stmt) : Prop := ∃ (p1 p2 p3 p4 p5 p6 p7 p8 p9 p10 p11 p12 p13 p14 p15 p16 p17 p18 p19 p20 : Pos) (j0 : Nat),
  stb = [.Assign [.Name "part" p1] (.Constant (.int 0) j0 p2) p3, .While (pTest p4 p5 p6) (pBody p7 p8 p9 p10 p11 p12 p13 p14 p15 p16) [] p17, .Expr (.Yield (some (.Name "bits" p18)) p19) p20]
theorem seg_isParts {P : Program} {w : World} {A : Around} {env : PySem.Env} {b : Int} {N : Nat} {f : Nat → Int} {stb : List Stmt} (hst : IsParts stb) (E : PEnv env) (C : Chain b N f) (s₀ s : Shared) (m : Str → Option Value) (t : Tok) (hn : s.heap.Ns env.locals m) (hb : m "bits" = some (.int b t)) (hs : GenSince env.locals [] s₀ s) :
    Seg (model P w) A (pEnd env.locals) (pProto env.locals N f) (N + 1) s₀ (.func stb env) ((model P w).den (.func stb env)) [] s := by
  obtain ⟨p1, p2, p3, p4, p5, p6, p7, p8, p9, p10, p11, p12, p13, p14, p15, p16, p17, p18, p19, p20, j0, rfl⟩ := hst
  exact seg_parts E C s₀ s m t hn hb hs
structure PMade (b : Int) (s1 : Shared) (u : Value) (s' : Shared) : Prop where
  ex : ∃ (env : PySem.Env) (stb : List Stmt) (h' : Heap) (tk : Nat) (a : Addr), u = .ref a ∧ s' = { s1 with heap := h', gens := s1.gens.push (.fresh (.func stb env)), toks := tk } ∧ IsParts stb ∧ PEnv env ∧
    s1.heap.objs.size ≤ a ∧ s1.heap.objs.size ≤ env.locals ∧ a ≠ env.locals ∧ a < h'.objs.size ∧ env.locals < h'.objs.size ∧ (∀ c o, s1.heap.get? c = some o → h'.get? c = some o) ∧ h'.IsGen a s1.gens.size ∧ ∃ m t, h'.Ns env.locals m ∧ m "bits" = some (.int b t)
theorem call_parts {X : Cx} {pins : List (Addr × Obj)} {σ : L2.St} {H : Hp} {s : Shared} {x qual : Str} {f : Addr} {fd : FuncData} {params : Arguments} {stb : List Stmt} {scope : Scope} {b : Int} {t : Tok} {A : Around} {E : Value → Shared → Prop} {Q : Value → Shared → Prop}
    (F : FunD X.K x qual params stb scope [] [] f fd) (hst : IsParts stb) (hk : scope.kind = .function) (hco : scope.isCoroutine = false) (hge : scope.isGenerator = true) (hbl : scope.names.lookup ("bits" : Str) = some NameKind.local) (hpl : scope.names.lookup ("part" : Str) = some NameKind.local)
    (hia : ∀ (L : Addr) (cd : Value), interactive (envOfC qual scope L f cd) = false) (hb : Binds X.K fd ["bits"] []) (hd : A.depth < recursionLimit) (I : Inv X pins σ H s) (hq : ∀ u s', PMade b s u s' → Q u s') :
    wpAny (model X.prog X.w) A (call (.ref f) [.int b t]) Q E s := by
  obtain ⟨oc, od, dV, kV, doc, pm, an, cdv, ct, osl, rfl, lk, hcd, _, _⟩ := F.ex
  have KX : X.K.In s.heap := I.kIn
  have lim : s.heap.NoLimit := I.nolimit
  refine wpAny_call (codeAny_call_generator hd (KX _ _ lk) rfl hco hge rfl (PySem.W.codeRec_of KX hcd) (hb s [.int b t] KX rfl _ _ _ _ ?_))
  refine wpAny_newFunctionEnv_cells hk (fun y hy => ?_) fun env he s1 xc => ?_
  · have : y = (("bits" : Str), Value.int b t) := by simpa using hy
    rw [this]
    exact .inl hbl
  subst he
  have lim1 : s1.heap.NoLimit := lim.keeps xc.toInCall.keep
  obtain ⟨h1, tk, es1, hk1⟩ := xc.done
  have lt1 : s.heap.objs.size < s1.heap.objs.size := xc.toInCall.ns.lt
  have kp1 : ∀ c o, s.heap.get? c = some o → s1.heap.get? c = some o := xc.toInCall.keep
  have hns := xc.toInCall.ns
  have gen1 : s1.gens = s.gens := by rw [es1]
  have main : ∀ (go : Obj) (nm qn : Value) (tk2 : Nat), go.cls = .type "generator" → go.data = .fields #[.int s1.gens.size 0, nm, qn] → go.slots = #[] → (∀ h : Heap, (h.push go).get? h.objs.size = some go) →
      PMade b s (.ref s1.heap.objs.size) { s1 with gens := s1.gens.push (.fresh (.func stb (envOfC qual scope s.heap.objs.size f cdv))), toks := tk2, heap := s1.heap.push go } := by
    intro go nm qn tk2 hgc hgd hgs hgp
    refine ⟨envOfC qual scope s.heap.objs.size f cdv, stb, s1.heap.push go, tk2, s1.heap.objs.size, rfl, ?_, hst, ⟨hk, hbl, hpl, hco, hia _ _⟩, Nat.le_of_lt lt1, Nat.le_refl _, Nat.ne_of_gt lt1, ?_, ?_, fun c o e => Heap.get?_push_of_some _ (kp1 c o e), ⟨go, nm, qn, hgp _, hgc, ?_, hgs⟩, _, t, hns.keeps fun c o e => Heap.get?_push_of_some _ e, ?_⟩
    · rw [es1]
    · rw [Heap.size_push]; exact Nat.lt_succ_self _
    · rw [Heap.size_push]; exact Nat.lt_succ_of_lt lt1
    · rw [← gen1]; exact hgd
    · exact bindL_get (P := ["bits"]) (vs := [Value.int b t]) (i := 0) (by simp) rfl rfl hbl
  exact ⟨lim1, hq _ _ (main _ _ _ _ rfl rfl rfl fun h => Heap.get?_push_size _ rfl)⟩
end DL
namespace DL
open PySem PySem.Spec PySem.W PyProof.Rows L2 GenW
theorem setGen_two {s : Shared} {g : Nat} {x y : GenState} {gs : GenState} (h : s.gens[g]? = some gs) (hp : Heap) (tk : Nat) : ({ s.setGen g x with heap := hp, toks := tk } : Shared).setGen g y = { s with heap := hp, toks := tk, gens := s.gens.setIfInBounds g y } := by
  show ({ s with heap := hp, toks := tk, gens := (s.gens.setIfInBounds g x).setIfInBounds g y } : Shared) = _
  rw [Array.setIfInBounds_setIfInBounds]
theorem bare_set {G : Array GenState} {g : Nat} {x : GenState} (h : AllBare G) (hx : x.bare = true) : AllBare (G.setIfInBounds g x) := fun y hy => by
  rcases Array.mem_or_eq_of_mem_setIfInBounds hy with q | q
  · exact h y q
  · rw [q]; exact hx
theorem lcG_core {X : Cx} {pins : List (Addr × Obj)} {σ : L2.St} {H : Hp} {s : Shared} {Q : VK} {xn : Str} {px pe : Pos} {iter : Expr} {scope : Scope} {own : List (Str × Nat)} {pos pos' : Pos} {use : Option (Value → Sem Unit)} {Qf : Value → Shared → Prop}
    (hc : X.calm = true) (hN : X.N.Nodup) (I : Inv X pins σ H s) (ok : BlkOk X.N X.env.scope scope own) (hxl : scope.names.lookup xn = some .local) (hxo : ∀ i, X.N[i]? = some xn → i ∈ own.map (·.2)) (hdb : (xn == ("__debug__" : Str)) = false)
    (hs : ∀ x, foldedSetIterable iter X.env x = pure x) (hdp : X.A.depth < recursionLimit)
    (hi : wpAny (model X.prog X.w) X.A (eval iter X.env) (fun u s' => ∃ (s1 : Shared) (H1 : Hp) (b : Int) (N : Nat) (f : Nat → Int), Inv X pins σ H1 s1 ∧ PMade b s1 u s' ∧ Chain b N f ∧ N + 1 < sizeLine ∧
      ∀ D, H1 D = none → Q (.ref D) (upd H1 D (.lst ((List.range (N + 1)).map fun i => V.int (f i))))) X.xe s)
    (hRR : ∀ D C s' m H', Inv X pins σ H' s' → Q (.ref D) H' → s'.heap.Ns C m → FpOk X pins H' C → compPost (model X.prog X.w) X.A X.xe use Qf (.ref D) C (.ok .next) s') :
    wpAny (model X.prog X.w) X.A (comprehension (.ListComp (.Name xn pe) [⟨.Name xn px, iter, [], 0⟩] scope pos) scope X.env pos' (newList []) false (eval iter X.env) use) Qf X.xe s := by
  have hfree : ∀ y ∈ scope.names, y.2 = .free → ∃ c, X.env.cells.lookup y.1 = some c := fun y hy e => by
    rcases ok.free y hy e with k | k
    · exact I.ok.has _ (.inl k)
    · exact I.ok.has _ (.inr k)
  refine wpAny_comprehension_free (use := use) rfl hs (closure_ok hfree) ok.kind (fun y hy e => by rw [ok.uniq y hy, e]) (thn hi fun xv s2 ⟨s1, H1, b, N, f, I1, made, C, hlen, hQ⟩ => ?_)
  obtain ⟨env, stb, h', tk, a, rfl, es2, hst, E, ha, hLge, haL, hah, hLlt, hkp, hgen, mB, tB, hnB, hmB⟩ := made.ex
  have hgen2 : s2.heap.IsGen a s1.gens.size := by rw [es2]; exact hgen
  refine wpAny_pyIter_gen hgen2 ?_
  have I2 : Inv X pins σ H1 s2 := by
    rw [es2]
    exact I1.call' (ch := []) rfl (Un.kept hkp) (I1.hok.kept hkp) (AllBare.push I1.bare rfl) (fun b z => by simp at z)
  have hgs2 : s2.gens[s1.gens.size]? = some (.fresh (.func stb env)) := by
    rw [es2]
    exact Array.getElem?_push_size ..
  have hh2 : s2.heap = h' := by rw [es2]
  rw [← hh2] at hah hLlt hnB
  generalize hg : s1.gens.size = g at hgen2 hgs2
  refine wpAny_newObj_type (newEnv_comp ?_) (by show 0 ≤ sizeLine; decide)
  generalize hD : s2.heap.objs.size = D at hah hLlt ⊢
  have hDn : H1 D = none := I2.hok.fresh (Nat.le_of_eq hD)
  have hQ' := hQ D hDn
  have hLn : H1 env.locals = none := I1.hok.fresh hLge
  have hLD : env.locals ≠ D := Nat.ne_of_lt hLlt
  -- the new list
  generalize hs3 : ({ s2 with heap := s2.heap.push { cls := .type "list", data := .seq ([] : List Value).toArray } } : Shared) = s3
  have I3 : Inv X pins σ (upd H1 D (.lst [])) s3 := by
    rw [← hs3]
    refine I2.laid (t' := s2.toks) (fun b o e => Heap.get?_push_of_some _ e) (Nat.le_of_eq hD) ⟨Nat.zero_le _, [], 0, .nil, ?_⟩
    rw [← hD]
    exact Heap.get?_push_size _ rfl
  have h3 : s3.heap = s2.heap.push { cls := .type "list", data := .seq ([] : List Value).toArray } := by rw [← hs3]
  have kp3 : ∀ c o, s2.heap.get? c = some o → s3.heap.get? c = some o := fun c o e => by rw [h3]; exact Heap.get?_push_of_some _ e
  have f3 : ∀ b ∈ [env.locals], FpOk X pins (upd H1 D (.lst [])) b ∧ b < s3.heap.objs.size := fun b hb => by
    rw [List.mem_singleton.mp hb]
    refine ⟨I1.fpOk hLge (by rw [upd_ne hLD]; exact hLn), ?_⟩
    rw [h3, Heap.size_push, hD]
    exact Nat.lt_succ_of_lt hLlt
  have I4 := block_start I3 ok hN f3
  have pgk : ∀ (C : Addr) (cl : List (Str × Addr)), (compEnvC scope cl C X.env).kindOf xn = some .local := fun C cl => lookup_relabel_local hxl
  show codeAny _ _ (.compStart (.ListComp (.Name xn pe) [⟨.Name xn px, iter, [], 0⟩] scope pos) 0 (.ref a) (.ref D) (compEnvC scope (cellsFrom (s3.heap.objs.size + 1) scope.names (cloFrom X.env.cells scope.names [])) s3.heap.objs.size X.env)) (compPost (model X.prog X.w) X.A X.xe use Qf (.ref D) s3.heap.objs.size) { s3 with heap := pushCells (s3.heap.push { cls := .type "dict", data := .dict #[] }) scope.names }
  have hkl := pgk s3.heap.objs.size (cellsFrom (s3.heap.objs.size + 1) scope.names (cloFrom X.env.cells scope.names []))
  generalize hce : compEnvC scope (cellsFrom (s3.heap.objs.size + 1) scope.names (cloFrom X.env.cells scope.names [])) s3.heap.objs.size X.env = ce at I4 hkl ⊢
  have cL : ce.locals = s3.heap.objs.size := by subst hce; rfl
  have cC : ∀ y c, ce.cells.lookup y = some c → c ≠ env.locals := (I4.ok.exf env.locals (List.mem_singleton.mpr rfl)).2
  have hLC : env.locals ≠ ce.locals := (I4.ok.exf env.locals (List.mem_singleton.mpr rfl)).1
  have hDC : D ≠ ce.locals := by
    rw [cL, h3, Heap.size_push, hD]
    exact Nat.ne_of_lt (Nat.lt_succ_self _)
  generalize hH3 : upd H1 D (.lst []) = H3 at I3 I4 f3
  have hH3D : H3 D = some (.lst []) := by rw [← hH3]; exact upd_same
  have hH3o : ∀ c, c ≠ D → H3 c = H1 c := fun c hc => by rw [← hH3]; exact upd_ne hc
  generalize hs4 : ({ s3 with heap := pushCells (s3.heap.push { cls := .type "dict", data := .dict #[] }) scope.names } : Shared) = s4 at I4 ⊢
  have kp4 : ∀ c o, s2.heap.get? c = some o → s4.heap.get? c = some o := fun c o e => by
    rw [← hs4]
    exact pushCells_keeps _ _ _ _ (Heap.get?_push_of_some _ (kp3 c o e))
  have hgen4 : s4.heap.IsGen a g := hgen2.keeps kp4
  have hgs4 : s4.gens[g]? = some (.fresh (.func stb env)) := by
    rw [← hs4, ← hs3]
    exact hgs2
  have haD : a ≠ D := Nat.ne_of_lt hah
  have haC : a ≠ ce.locals := by
    rw [cL, h3, Heap.size_push, hD]
    exact Nat.ne_of_lt (Nat.lt_succ_of_lt hah)
  have hwx : ∀ (i : Nat) (v : V), X.N[i]? = some xn → (wipe σ (own.map (·.2)))[i]? ≠ some (some v) := fun i v e q => (wipe_some q).2 (hxo i e)
  have hh : X.A.handled = none := I.ok.hd hc
  have loop : codeAny (model X.prog X.w) X.A (.compLoop (.ListComp (.Name xn pe) [⟨.Name xn px, iter, [], 0⟩] scope pos) 0 (.ref a) (.ref D) ce) (compPost (model X.prog X.w) X.A X.xe use Qf (.ref D) s3.heap.objs.size) s4 := by
    refine compLoop_any (fun n s' => ∃ (j : Nat) (gs : GenState) (H' : Hp), j ≤ N + 1 ∧ n = N + 1 - j ∧ Inv (X.blk s3 H3 scope ce [env.locals]) [] (wipe σ (own.map (·.2))) H' s' ∧ H' D = some (.lst ((List.range j).map fun i => V.int (f i))) ∧ (∀ c, c ≠ D → H' c = H3 c) ∧
      s'.heap.IsGen a g ∧ s'.gens[g]? = some gs ∧ gs.Goes (model X.prog X.w) X.A.in1 (pEnd env.locals) (pProto env.locals N f) n (.send .none) (s'.setGen g .running)) ?_ (N + 1) ⟨0, _, H3, Nat.zero_le _, rfl, I4, hH3D, fun _ _ => rfl, hgen4, hgs4, rfl, ?_⟩
    · rintro n s5 ⟨j, gs, H5, hj, hn, I5, hD5, hH5, hg5, hgs5, hgo5⟩
      have hL5 : H5 env.locals = none := by rw [hH5 _ hLD, hH3o _ hLD]; exact hLn
      have turnI : ∀ (h6 : Heap) (G : Array GenState) (tk6 : Nat), (∀ c o, c ≠ env.locals → s5.heap.get? c = some o → h6.get? c = some o) → AllBare G → Inv (X.blk s3 H3 scope ce [env.locals]) [] (wipe σ (own.map (·.2))) H5 { s5 with heap := h6, gens := G, toks := tk6 } := fun h6 G tk6 k hG =>
        inv_turnG (it := env.locals) I5 k hL5 hLC (.inl (List.mem_singleton.mpr rfl)) cC (fun p hp => absurd hp (by simp)) hG
      refine next_genG (A := X.A) (g := g) (n := n) (gs := gs) (F := pFin env.locals) (Er := fun _ _ => False) (Y := pProto env.locals N f) hh I5.nolimit hdp hg5 hgs5 hgo5 (fun v s6 gs' hbare hv => ?_) (fun s6 hfin h7 hk7 => ?_) (fun e s6 he => he.elim)
      · obtain ⟨⟨tv, rfl⟩, ⟨h6, tk6, rfl, hk6⟩, hkap⟩ := hv
        cases n with
        | zero => exact (hkap _ fun o e => e).elim
        | succ m =>
          have hjm : N - m = j := by omega
          rw [setGen_two hgs5]
          show wpAny _ _ (letOwnedTupleGo (.Name xn px) (.ref a) (.int (f (N - m)) tv)) _ _ _
          rw [hjm]
          have I6 := turnI h6 (s5.gens.setIfInBounds g gs') tk6 (fun c o hc e => hk6 c o hc (by simp) e) (bare_set I5.bare hbare)
          have hsz : g < s5.gens.size := (Array.getElem?_eq_some_iff.mp hgs5).1
          refine wpAny_of_eq (rfl : letOwnedTupleGo (.Name xn px) (.ref a) (.int (f j) tv) = pure ()) ?_
          refine wpAny_assign_Name (store_blk I6 hkl hwx fun h8 I8 hs8 hm8 => ?_)
          obtain ⟨m8, hn8, hm8⟩ := hm8
          refine wpAny_tests_nil ?_
          rw [if_pos rfl]
          refine wpAny_Name (wpAny_loadName_local I8.ok.kind hkl hn8 hm8 ?_) hdb
          obtain ⟨hz', its, nn, ri, e⟩ := I8.hok D _ hD5
          have hl := ri.length
          rw [List.length_map, List.length_range] at hl
          refine append_at (hsz := by rw [List.size_toArray, ← hl]; omega) e fun h9 sb9 ho9 => ?_
          have I9 := I8.write (t' := tk6 + 1) (o := .lst ((List.range (j + 1)).map fun i => V.int (f i))) (by rw [hD5]; trivial) (.inl rfl) (fun b u hb q => (sb9.2 b hb).trans q) ⟨_, ho9⟩ ⟨by rw [List.length_map, List.length_range]; omega, its ++ [.int (f j) tv], nn + 1, by
            rw [List.range_succ, List.map_append]
            exact ri.append (.cons ⟨tv, rfl⟩ .nil), by
            rw [ho9]
            simp [hjm]⟩
          refine ⟨m, Nat.lt_succ_self m, j + 1, gs', upd H5 D (.lst ((List.range (j + 1)).map fun i => V.int (f i))), by omega, by omega, I9, upd_same, fun c hc => by rw [upd_ne hc]; exact hH5 c hc, ?_, ?_, ?_⟩
          · obtain ⟨og, nm, qn, ho, r⟩ := hg5
            exact ⟨og, nm, qn, (sb9.2 a haD).trans ((hs8.2 a haC).trans (hk6 a og haL (by simp) ho)), r⟩
          · show (s5.gens.setIfInBounds g gs')[g]? = some gs'
            simp [hsz]
          · exact hkap _ fun o e => (sb9.2 _ hLD).trans ((hs8.2 _ hLC).trans e)
      · obtain ⟨hn0, h6, tk6, rfl, hk6⟩ := hfin
        have hjN : j = N + 1 := by omega
        subst hjN
        have I6 := turnI h7 (s5.gens.setIfInBounds g .finished) tk6 (fun c o hc e => hk7 c o (hk6 c o hc (by simp) e)) (bare_set I5.bare rfl)
        have es6 : ({ ({ s5.setGen g .running with heap := h6, toks := tk6 } : Shared).setGen g .finished with heap := h7 } : Shared) = { s5 with heap := h7, gens := s5.gens.setIfInBounds g .finished, toks := tk6 } := by
          rw [setGen_two hgs5]
        rw [es6]
        have I7 : Inv X pins σ H5 { s5 with heap := h7, gens := s5.gens.setIfInBounds g .finished, toks := tk6 } := I3.call' (ch := [env.locals]) I6.os I6.base I6.hok I6.bare fun b hb => ⟨(f3 b hb).1.2.2.2.1, (f3 b hb).1.2.1, (f3 b hb).1.2.2.2.2.1, (f3 b hb).1.2.2.2.2.2⟩
        have nC : H5 s3.heap.objs.size = none := by
          have z : H5 ce.locals = none := I6.free
          rw [cL] at z
          exact z
        obtain ⟨m, hnm, _⟩ := I6.loc
        have hnm : h7.Ns ce.locals m := hnm
        rw [cL] at hnm
        have eH : H5 = upd H1 D (.lst ((List.range (N + 1)).map fun i => V.int (f i))) := by
          funext c
          by_cases hc : c = D
          · rw [hc, hD5, upd_same]
          · rw [hH5 c hc, hH3o c hc, upd_ne hc]
        exact hRR D s3.heap.objs.size _ m H5 I7 (by rw [eH]; exact hQ') hnm (I3.fpOk (Nat.le_refl _) nC)
    · exact seg_isParts hst E C _ _ mB tB (hnB.keeps kp4) hmB (GenSince.refl _ _ _)
  exact codeAny_compStart_list loop (wpAny_pyIter_gen hgen4 loop)
end DL
namespace DL
open PySem PySem.Spec PySem.W PyProof.Rows L2 GenW
def partsO (b : Int) : Nat → Int → Option (List Int)
  | 0, p => if p = b then some [p] else none
  | m + 1, p => if p = b then some [p] else (partsO b m (Builtin.bitAnd (p - b) b)).map (p :: ·)
def gParts : D → Option D
  | .a (.int b) => (partsO b 300 0).map fun l => .lst true (l.map D.int)
  | _ => none
theorem chain_of {b : Int} : ∀ {m : Nat} {p : Int} {l : List Int}, partsO b m p = some l →
    ∃ (N : Nat) (f : Nat → Int), f 0 = p ∧ (∀ i, i < N → f (i + 1) = Builtin.bitAnd (f i - b) b) ∧ (∀ i, i < N → f i ≠ b) ∧ f N = b ∧ N ≤ m ∧ l = (List.range (N + 1)).map f
  | 0, p, l, h => by
    unfold partsO at h
    split at h
    · rename_i e
      cases h
      exact ⟨0, fun _ => p, rfl, fun i hi => absurd hi (Nat.not_lt_zero _), fun i hi => absurd hi (Nat.not_lt_zero _), e, Nat.le_refl _, rfl⟩
    · cases h
  | m + 1, p, l, h => by
    unfold partsO at h
    split at h
    · rename_i e
      cases h
      exact ⟨0, fun _ => p, rfl, fun i hi => absurd hi (Nat.not_lt_zero _), fun i hi => absurd hi (Nat.not_lt_zero _), e, Nat.zero_le _, rfl⟩
    · rename_i e
      obtain ⟨l', hl, rfl⟩ := Option.map_eq_some_iff.mp h
      obtain ⟨N, f, h0, h1, h2, h3, h4, rfl⟩ := chain_of hl
      refine ⟨N + 1, fun i => match i with | 0 => p | i + 1 => f i, rfl, fun i hi => ?_, fun i hi => ?_, h3, Nat.succ_le_succ h4, ?_⟩
      · cases i with
        | zero => exact h0
        | succ i => exact h1 i (Nat.lt_of_succ_lt_succ hi)
      · cases i with
        | zero => exact e
        | succ i => exact h2 i (Nat.lt_of_succ_lt_succ hi)
      · rw [List.range_succ_eq_map (n := N + 1), List.map_cons, List.map_map]
        rfl
def rParts : V → Hp → VK → Prop := fun x H1 Q => ∃ (b : Int) (N : Nat) (f : Nat → Int), x = .int b ∧ Chain b N f ∧ N + 1 < sizeLine ∧ ∀ D, H1 D = none → Q (.ref D) (upd H1 D (.lst ((List.range (N + 1)).map fun i => V.int (f i))))
def oneP (r : V → Hp → VK → Prop) (Q : VK) : List V → Hp → Prop := fun vs H1 => match vs with
  | [x] => r x H1 Q
  | _ => False
theorem pe_parts {X : Cx} {xn x qual : Str} {px pe pc pos pos1 : Pos} {e : Expr} {te : TE} {scope sc : Scope} {own : List (Str × Nat)} {f : Addr} {params : Arguments} {stb : List Stmt} {k : Nat}
    (hc : X.calm = true) (hN : X.N.Nodup) (ok : BlkOk X.N X.env.scope scope own) (hxl : scope.names.lookup xn = some .local) (hxo : ∀ i, X.N[i]? = some xn → i ∈ own.map (·.2)) (he : PE X e te)
    (F : ∃ fd, FunD X.K x qual params stb sc [] [] f fd) (hst : IsParts stb) (hk : sc.kind = .function) (hco : sc.isCoroutine = false) (hge : sc.isGenerator = true) (hbl : sc.names.lookup ("bits" : Str) = some NameKind.local) (hpl : sc.names.lookup ("part" : Str) = some NameKind.local)
    (hia : ∀ (L : Addr) (cd : Value), interactive (envOfC qual sc L f cd) = false)
    (hbi : ∀ (kV doc pm : Value) (an : Option Addr) (cdv ct : Value) (us : List Value), us.length = [("bits" : Str)].length → bindArgs (PySem.W.fnOf x qual params stb sc .none kV doc pm an cdv ct) ⟨us, []⟩ = pure ([("bits" : Str)].zip us))
    (hr : Room k X.A) (hg : Gl X x) (hm : X.mg x = some (.ref f) ∧ PySem.W.keepIn X.K (.ref f) = true) (hs : ∀ y, foldedSetIterable (.Call (.Name x pc) [e] [] pos1) X.env y = pure y := by intro _; kernel_rfl) (hdb : (xn == ("__debug__" : Str)) = false := by kernel_rfl) (hdbx : (x == ("__debug__" : Str)) = false := by kernel_rfl)
    (hea : starEach [e] X.env = (false, eval e X.env) :: starEach [] X.env := by kernel_rfl) (hpla : (backTo pos1 (starEach [] X.env)).any (·.1) = false := by kernel_rfl) :
    PE X (.ListComp (.Name xn pe) [⟨.Name xn px, .Call (.Name x pc) [e] [] pos1, [], 0⟩] scope pos) (tUn rParts te) := by
  obtain ⟨fd, F⟩ := F
  have hb := F.bindsN hbi
  refine ⟨fun pins s σ H Q I h => ?_⟩
  rw [eval_ListComp]
  refine lcG_core (use := none) hc hN I ok hxl hxo hdb hs hr.depth (Q := Q) ?_ fun D C s' m H' I' q hn fo => ⟨m, hn, fun h'' sb => ?_⟩
  · have h' : (tCons te tNil) σ H (oneP rParts Q) := h
    refine wpAny_Call_Name_kw (ld_glob I hg hm.1 ?_ hdbx)
    refine PySem.W.callWith_K (h₀ := X.base) I.ok.mod.kin hm.2 (thn ((pa_cons he pa_nil hea).run pos1 pins s σ H _ I h') fun us s1 ⟨vs, H1, I1, r, q⟩ => ⟨I1.kIn, ?_⟩) hea hpla
    match vs, r, q with
    | [y], r, q =>
      obtain ⟨b, N, g, rfl, C, hlen, hQ⟩ := q
      cases r with
      | cons r0 r1 =>
        cases r1
        obtain ⟨t, rfl⟩ := r0
        exact call_parts F hst hk hco hge hbl hpl hia hb hr.depth I1 fun u s' made => ⟨s1, H1, b, N, g, I1, made, C, hlen, hQ⟩
  · obtain ⟨f0, f1, f2, f3, f4, f5⟩ := fo
    exact ⟨.ref D, H', I'.turned (t' := s'.toks) (fun b o hb e => (sb.2 b hb).trans e) f0 f1 f3 f4 f5, rfl, q⟩
theorem hxo_of {N : List Str} {xn : Str} {i : Nat} (hN : N.Nodup) (h : N[i]? = some xn) : ∀ j, N[j]? = some xn → j ∈ ([(xn, i)] : List (Str × Nat)).map (·.2) := fun j e => by
  rw [nodup_ix hN e h]
  exact List.mem_cons_self
theorem vu_parts {K : PySem.W.Frag} {cA : Str → Addr} : VU K cA rParts gParts := by
  refine ⟨@fun d1 d v1 H Z f1 Q h1 w hg q => ?_⟩
  unfold gParts at hg
  split at hg
  · rename_i n
    obtain ⟨l, hl, rfl⟩ := Option.map_eq_some_iff.mp hg
    obtain ⟨N, f, h0, hst, hne, hen, hN, rfl⟩ := chain_of hl
    obtain ⟨e, _⟩ := h1
    subst e
    refine ⟨n, N, f, rfl, ⟨h0, hst, hne, hen⟩, Nat.lt_of_le_of_lt (Nat.succ_le_succ hN) (by decide), fun p hp => ?_⟩
    have hr := repL_ints (K := K) (cA := cA) (H := H) (Z := Z) ((List.range (N + 1)).map f)
    obtain ⟨a, b, c⟩ := new_lst w hr hp
    have e : ((List.range (N + 1)).map f).map V.int = (List.range (N + 1)).map fun i => V.int (f i) := by
      rw [List.map_map]
      rfl
    rw [← e]
    exact q _ _ _ _ a b c
  · cases hg
theorem de_parts {X : Cx} {cA : Str → Addr} {W : WX} {fa : Env → Out D} {xn x qual : Str} {px pe pc pos pos1 : Pos} {e : Expr} {scope sc : Scope} {own : List (Str × Nat)} {f : Addr} {params : Arguments} {stb : List Stmt} {k : Nat}
    (hc : X.calm = true) (hN : X.N.Nodup) (ok : BlkOk X.N X.env.scope scope own) (hxl : scope.names.lookup xn = some .local) (hxo : ∀ i, X.N[i]? = some xn → i ∈ own.map (·.2)) (ha : DE X cA W fa e)
    (F : ∃ fd, FunD X.K x qual params stb sc [] [] f fd) (hst : IsParts stb) (hk : sc.kind = .function) (hco : sc.isCoroutine = false) (hge : sc.isGenerator = true) (hbl : sc.names.lookup ("bits" : Str) = some NameKind.local) (hpl : sc.names.lookup ("part" : Str) = some NameKind.local)
    (hia : ∀ (L : Addr) (cd : Value), interactive (envOfC qual sc L f cd) = false)
    (hbi : ∀ (kV doc pm : Value) (an : Option Addr) (cdv ct : Value) (us : List Value), us.length = [("bits" : Str)].length → bindArgs (PySem.W.fnOf x qual params stb sc .none kV doc pm an cdv ct) ⟨us, []⟩ = pure ([("bits" : Str)].zip us))
    (hr : Room k X.A) (hg : Gl X x) (hm : X.mg x = some (.ref f) ∧ PySem.W.keepIn X.K (.ref f) = true) (hs : ∀ y, foldedSetIterable (.Call (.Name x pc) [e] [] pos1) X.env y = pure y := by intro _; kernel_rfl) (hdb : (xn == ("__debug__" : Str)) = false := by kernel_rfl) (hdbx : (x == ("__debug__" : Str)) = false := by kernel_rfl)
    (hea : starEach [e] X.env = (false, eval e X.env) :: starEach [] X.env := by kernel_rfl) (hpla : (backTo pos1 (starEach [] X.env)).any (·.1) = false := by kernel_rfl) :
    DE X cA W (dU gParts fa) (.ListComp (.Name xn pe) [⟨.Name xn px, .Call (.Name x pc) [e] [] pos1, [], 0⟩] scope pos) :=
  PE.imp (pe_parts hc hN ok hxl hxo (dp_de ha) F hst hk hco hge hbl hpl hia hbi hr hg hm hs hdb hdbx hea hpla) (te_un vu_parts)
end DL
namespace DC
open PySem L2 DL
theorem has_eq (m x : Nat) : F_has [.int m, .int x] = .rt (.bl (m.testBit x)) none := by
  apply wf_eq
  unfold F_has
  rw [wf_fn]
  unfold B_has
  simp [ioOf]
  rw [PyProof.Rows.bitAnd_m1, Nat.testBit_eq_decide_div_mod_eq]
  congr 1
  have : ((m : Int) / 2 ^ x) = ((m / 2 ^ x : Nat) : Int) := by simp
  rw [this]
  simp only [eq_iff_iff]
  omega
def Stt (d : D) : Prop := ∃ s t : Int, d = .lst true [.int s, .int t] ∧ 0 ≤ s ∧ 0 ≤ t ∧ t < 2147483647
theorem mulOk_of {a b : Int} {m n : Nat} (ha : Builtin.Int.intBits a ≤ m) (hb : Builtin.Int.intBits b ≤ n) (h : m + n ≤ 134217728) : mulOk a b = true := by
  unfold mulOk
  rw [decide_eq_true_eq]
  omega
theorem bits31 {t : Int} (h0 : 0 ≤ t) (h : t < 2147483647) : Builtin.Int.intBits t ≤ 31 := PySem.intBits_le_iff.mpr (by omega)
theorem bits_c {t : Int} {n : Nat} (h : t.natAbs < 2 ^ n) : Builtin.Int.intBits t ≤ n := PySem.intBits_le_iff.mpr h
theorem divOk_small {i j : Int} (h : 0 < j) (h2 : j < 1073741824) : divOk i j = true := by
  unfold divOk
  simp [h, h2]
theorem take_wf {st : D} (h : Stt st) (m : Int) (hm : 0 < m) (hm2 : m < 1000000) : WF NoE (fun d io => ∃ v : Int, d = .int v ∧ 0 ≤ v ∧ v < m ∧ ∃ st', io = some st' ∧ Stt st') (F_law_take [st, .int m]) := by
  obtain ⟨s, t, rfl, hs, ht, ht2⟩ := h
  unfold F_law_take
  rw [wf_fn]
  unfold B_law_take
  simp [ioOf, gIxO, atI, ixN]
  have b1 := bits31 ht ht2
  split
  · exact ⟨hm, divOk_small hm (by omega), Int.emod_nonneg _ (by omega), Int.emod_lt_of_pos _ hm, _, _, rfl, Int.ediv_nonneg hs (by omega), ht, ht2⟩
  · have h1 := Int.emod_nonneg (t * 48271 + 11) (show (2147483647 : Int) ≠ 0 by decide)
    have h2 := Int.emod_lt_of_pos (t * 48271 + 11) (show (0 : Int) < 2147483647 by decide)
    exact ⟨mulOk_of b1 (bits_c (n := 16) (by decide)) (by decide), divOk_small (by decide) (by decide), hm, Int.emod_nonneg _ (by omega), Int.emod_lt_of_pos _ hm, _, _, rfl, hs, h1, h2⟩
@[irreducible] def bb (i : Nat) : Nat := 1048576 + 22 * i
theorem bb_s (i : Nat) : bb (i + 1) = bb i + 22 := by unfold bb; omega
theorem bb_lo (i : Nat) : 1048576 ≤ bb i := by unfold bb; omega
theorem bb_hi {i : Nat} (h : i ≤ 63) : bb i ≤ 1050000 := by unfold bb; omega
theorem state_wf (ns : List Int) (hl : ns.length ≤ 63) (hb : ∀ z ∈ ns, Builtin.Int.intBits z ≤ 1048576) : WF NoE (fun d _ => Stt d) (F_law_state [.scr (ns.map D.int)]) := by
  unfold F_law_state
  rw [wf_fn]
  unfold B_law_state
  have hf : isFL (ns.map D.int) = true := isFL_map fun _ => rfl
  have hcut : cutD (ns.map D.int) none (some 63) = ns.map D.int := by
    unfold cutD
    have e1 : HT.sIx (ns.map D.int).length 0 none = 0 := rfl
    have e2 : HT.sIx (ns.map D.int).length (ns.map D.int).length (some 63) = ns.length := by
      rw [show (63 : Int) = ((63 : Nat) : Int) from rfl, HT.sIx_nat, List.length_map]
      omega
    rw [e1, e2, Nat.sub_zero, List.drop_zero]
    exact List.take_of_length_le (by simp)
  simp [gSl, hf, hcut, itemsOf]
  refine ⟨by omega, ?_⟩
  refine wp_for (fun i ρ => ∃ (s t : Int) (v : Option D), ρ = [some (.scr (ns.map D.int)), some (.int s), some (.int t), v] ∧ 0 ≤ s ∧ Builtin.Int.intBits s ≤ bb i ∧ 0 ≤ t ∧ t < 2147483647) ?_ ?_ ?_
  · exact ⟨0, 1, none, rfl, by decide, PySem.intBits_le_iff.mpr (Nat.two_pow_pos _), by decide, by decide⟩
  · intro i d ρ hd h
    obtain ⟨s, t, v, hρ, h1, h2, h3, h4⟩ := h
    subst hρ
    rw [List.getElem?_map] at hd
    cases hz : ns[i]? with
    | none => rw [hz] at hd; cases hd
    | some z =>
      rw [hz] at hd
      cases hd
      have hi : i < ns.length := (List.getElem?_eq_some_iff.mp hz).1
      have bz := hb z (List.mem_of_getElem? hz)
      have babs : Builtin.Int.intBits (if z < 0 then -z else z) ≤ 1048576 := by
        split
        · exact PySem.intBits_neg_le bz
        · exact bz
      have habs : 0 ≤ (if z < 0 then -z else z) := by split <;> omega
      have b20 : Builtin.Int.intBits (1000003 : Int) ≤ 20 := bits_c (by decide)
      have h5 := PySem.intBits_add_le (PySem.intBits_mul_le h2 b20) babs
      have q1 := bb_s i
      have q2 := bb_lo i
      have q3 := bb_hi (i := i) (by omega)
      have h6 := Int.emod_nonneg (t * 48271 + z) (show (2147483647 : Int) ≠ 0 by decide)
      have h7 := Int.emod_lt_of_pos (t * 48271 + z) (show (0 : Int) < 2147483647 by decide)
      simp [hf]
      generalize (if z < 0 then -z else z) = az at *
      have k1 : mulOk s 1000003 = true := mulOk_of h2 b20 (Nat.le_trans (Nat.add_le_add_right q3 20) (by decide))
      have k2 : mulOk t 48271 = true := mulOk_of (bits31 h3 h4) (bits_c (n := 16) (by decide)) (by decide)
      rw [Nat.max_eq_left (Nat.le_trans q2 (Nat.le_add_right _ _))] at h5
      have k3 : Builtin.Int.intBits (s * 1000003 + az) ≤ bb (i + 1) := by
        rw [q1]
        exact Nat.le_succ_of_le h5
      have k4 : 0 ≤ s * 1000003 + az := by clear h5 k3 babs bz h2 q1 q2 q3; omega
      exact ⟨k1, k2, _, _, ⟨rfl, rfl⟩, k4, k3, h6, h7⟩
  · rintro ρ ⟨s, t, v, rfl, h1, h2, h3, h4⟩
    simp [hf]
    exact ⟨s, t, rfl, h1, h3, h4⟩
def natD (n : Nat) : D := .a (.int (n : Int))
@[simp] theorem isF_natD {n : Nat} : isF (natD n) = true := rfl
@[simp] theorem frz_natD {n : Nat} : frz (natD n) = natD n := rfl
end DC
namespace DC
open PySem L2 DL
@[simp] theorem frzL_nat {l : List Nat} : frzL (l.map natD) = l.map natD := frzL_map fun _ => rfl
@[simp] theorem isFL_nat {l : List Nat} : isFL (l.map natD) = true := isFL_map fun _ => rfl
end DC
namespace DC
open PySem L2 DL
theorem natD_get {l : List Nat} {k : Nat} {d : D} (h : (l.map natD)[k]? = some d) : ∃ x, l[k]? = some x ∧ d = natD x := by
  rw [List.getElem?_map] at h
  cases e : l[k]? with
  | none => rw [e] at h; cases h
  | some x => rw [e] at h; cases h; exact ⟨x, rfl, rfl⟩
def prD (p : Nat × Nat) : D := .n .tup false [natD p.1, natD p.2]
@[simp] theorem isF_prD {p : Nat × Nat} : isF (prD p) = true := rfl
@[simp] theorem frz_prD {p : Nat × Nat} : frz (prD p) = prD p := rfl
@[simp] theorem frzL_pr {l : List (Nat × Nat)} : frzL (l.map prD) = l.map prD := frzL_map fun _ => rfl
@[simp] theorem isFL_pr {l : List (Nat × Nat)} : isFL (l.map prD) = true := isFL_map fun _ => rfl
def PsOk (n : Nat) (r : Nat → Nat) (ps : List (Nat × Nat)) : Prop := ∀ p ∈ ps, p.1 < n ∧ p.2 < n ∧ r p.1 < r p.2
def Acyc (n : Nat) (ps : List (Nat × Nat)) : Prop := ∃ r : Nat → Nat, PsOk n r ps
end DC
namespace DC
open PySem L2 DL
def vec (n : Nat) (f : Nat → D) : List D := (List.range n).map f
@[simp] theorem vec_len {n : Nat} {f : Nat → D} : (vec n f).length = n := by simp [vec]
theorem vec_get {n i : Nat} {f : Nat → D} (h : i < n) : (vec n f)[i]? = some (f i) := by simp [vec, h]
theorem vec_get' {n i : Nat} {f : Nat → D} {d : D} (h : (vec n f)[i]? = some d) : i < n ∧ d = f i := by
  have hi := (List.getElem?_eq_some_iff.mp h).1
  rw [vec_len] at hi
  rw [vec_get hi] at h
  cases h
  exact ⟨hi, rfl⟩
theorem isFL_vec {n : Nat} {f : Nat → D} (h : ∀ i, i < n → isF (f i) = true) : isFL (vec n f) = true := isFL_all.mpr fun x hx => by
  obtain ⟨i, hi, e⟩ := List.mem_map.mp hx
  rw [← e]
  exact h i (by simpa using hi)
theorem frzL_eq : ∀ xs : List D, frzL xs = xs.map frz
  | [] => rfl
  | x :: xs => by rw [frzL_cons, frzL_eq xs]; rfl
theorem frzL_vec {n : Nat} {f : Nat → D} : frzL (vec n f) = vec n (fun i => frz (f i)) := by
  rw [frzL_eq]; unfold vec; rw [List.map_map]; rfl
theorem ixN_nat {n i : Nat} (h : i < n) : ixN n (i : Int) = some i := by
  unfold ixN
  have : ((i : Int) < (n : Int)) := by omega
  simp [this]
theorem atI_nat {α : Type} {xs : List α} {i : Nat} {x : α} (h : xs[i]? = some x) : atI xs (i : Int) = some x := by
  unfold atI
  rw [ixN_nat (List.getElem?_eq_some_iff.mp h).1]
  exact h
theorem ixL {xs : List D} {i : Nat} {d : D} {o : Bool} (h : xs[i]? = some d) : gIxO (.n .lst o xs) (.a (.int (i : Int))) = some d := atI_nat h
theorem ixT {xs : List D} {i : Nat} {d : D} {o : Bool} (h : xs[i]? = some d) : gIxO (.n .tup o xs) (.a (.int (i : Int))) = some d := atI_nat h
abbrev Tb : Type := Nat → Nat → Bool
def stepT (T : Tb) (y x : Nat) : Tb := fun a b => if a = x then T a b || (T x y && T y b) else T a b
def warX (T : Tb) (y : Nat) : Nat → Tb
  | 0 => T
  | k + 1 => stepT (warX T y k) y k
def war (T : Tb) (n : Nat) : Nat → Tb
  | 0 => T
  | k + 1 => warX (war T n k) k n
def base (ps : List (Nat × Nat)) : Tb := fun x y => decide ((x, y) ∈ ps)
def clo (n : Nat) (ps : List (Nat × Nat)) : Tb := war (base ps) n n
def Up (n : Nat) (r : Nat → Nat) (T : Tb) : Prop := ∀ a b, T a b = true → a < n ∧ b < n ∧ r a < r b
theorem up_step {n : Nat} {r : Nat → Nat} {T : Tb} (h : Up n r T) (y x : Nat) : Up n r (stepT T y x) := by
  intro a b hab
  unfold stepT at hab
  split at hab
  · rename_i e
    subst e
    rw [Bool.or_eq_true, Bool.and_eq_true] at hab
    rcases hab with hab | ⟨h1, h2⟩
    · exact h a b hab
    · exact ⟨(h _ _ h1).1, (h _ _ h2).2.1, Nat.lt_trans (h _ _ h1).2.2 (h _ _ h2).2.2⟩
  · exact h a b hab
theorem up_warX {n : Nat} {r : Nat → Nat} {T : Tb} (h : Up n r T) (y : Nat) : ∀ k, Up n r (warX T y k)
  | 0 => h
  | k + 1 => up_step (up_warX h y k) y k
theorem up_war {n : Nat} {r : Nat → Nat} {T : Tb} (h : Up n r T) : ∀ k, Up n r (war T n k)
  | 0 => h
  | k + 1 => up_warX (up_war h k) k n
theorem up_base {n : Nat} {r : Nat → Nat} {ps : List (Nat × Nat)} (h : PsOk n r ps) : Up n r (base ps) := fun a b hab => h (a, b) (by simpa [base] using hab)
theorem up_clo {n : Nat} {r : Nat → Nat} {ps : List (Nat × Nat)} (h : PsOk n r ps) : Up n r (clo n ps) := up_war (up_base h) n
def mask (n : Nat) (f : Nat → Bool) : Nat := (List.range n).foldl (fun m z => if f z = true then m ||| 2 ^ z else m) 0
theorem bor_nat (a b : Nat) : Builtin.bitOr (a : Int) (b : Int) = ((a ||| b : Nat) : Int) := by
  unfold Builtin.bitOr Builtin.bitAnd Builtin.bitNot
  have h1 : ¬ (0 : Int) ≤ -(a : Int) - 1 := by omega
  have h2 : ¬ (0 : Int) ≤ -(b : Int) - 1 := by omega
  simp only [decide_eq_false h1, decide_eq_false h2]
  have e1 : (-(-(a : Int) - 1) - 1).toNat = a := by omega
  have e2 : (-(-(b : Int) - 1) - 1).toNat = b := by omega
  rw [e1, e2]
  omega
end DC
namespace DC
open PySem L2 DL
theorem o_shl1 {y : Nat} {P : D → Prop} (h : y ≤ 1000000) : SO (gShl (.a (.int 1)) (.a (.int (y : Int)))) P = P (.a (.int ((2 ^ y : Nat) : Int))) := by
  rw [o_shl]
  have : powOk 1 (y : Int) = true := by
    unfold powOk
    have h2 : (y : Int) ≤ 1000000 := by omega
    simp [h2]
  simp [this]
def mrow (n : Nat) (T : Tb) (x : Nat) : D := .a (.int ((mask n (T x) : Nat) : Int))
@[simp] theorem isF_mrow {n : Nat} {T : Tb} {x : Nat} : isF (mrow n T x) = true := rfl
@[simp] theorem frzL_mrow {n m : Nat} {T : Tb} : frzL (vec m (mrow n T)) = vec m (mrow n T) := by rw [frzL_vec]; rfl
@[simp] theorem isFL_mrow {n m : Nat} {T : Tb} : isFL (vec m (mrow n T)) = true := isFL_vec fun _ _ => rfl
end DC
namespace DC
open PySem L2 DL
theorem isint_eq (i : Int) : F_is_integer [.a (.int i)] = .rt (.a (.bl true)) none := by
  apply wf_eq
  unfold F_is_integer
  rw [wf_fn]
  unfold B_is_integer
  simp [ioOf, o_isi (t := "int") (d := .a (.int i)) rfl, isiT]
def ordD (n : Nat) (ms : List D) : D := .n (.ins "Order" ["n", "above"]) false [.a (.int (n : Int)), .n .tup false ms]
end DC
namespace DL
open PySem L2
def asA (d : D) (P : At → Prop) : Prop := match d with
  | .a x => P x
  | _ => False
@[simp] theorem asA_a {x : At} {P : At → Prop} : asA (.a x) P = P x := rfl
def asIA (a : At) (P : Int → Prop) : Prop := match a with
  | .int i => P i
  | _ => False
@[simp] theorem asIA_int {i : Int} {P : Int → Prop} : asIA (.int i) P = P i := rfl
section
variable {ρ : DL.Env} {i : Nat} {Q : Ps} {d : D}
@[simp] theorem q_Var {P : At → Prop} : SO (qVar i ρ) P = SO (ρ[i]?) fun o => SO o fun d => asA d P := by
  unfold qVar
  split
  · rename_i x h; rw [h]; rfl
  · rename_i h
    cases e : ρ[i]? with
    | none => rfl
    | some o =>
      cases o with
      | none => rfl
      | some d =>
        cases d with
        | a x => exact absurd e (h x)
        | n _ _ _ => rfl
@[simp] theorem q_Op {f : Int → Int → Int} {g h : DL.Env → Option At} {P : At → Prop} : SO (qOp f g h ρ) P = SO (g ρ) fun a => SO (h ρ) fun b => asIA a fun i => asIA b fun j => P (.int (f i j)) := by
  unfold qOp
  cases e1 : g ρ with
  | none => rfl
  | some a =>
    cases e2 : h ρ with
    | none => cases a <;> rfl
    | some b => cases a <;> cases b <;> rfl
@[simp] theorem p_Sub2 {qa qb : DL.Env → Option At} : WP Q (stSub2 i qa qb d ρ) = SO (ρ[i]?) fun o => SO o fun x => asL x fun xs => SO (qa ρ) fun a => SO (qb ρ) fun b => asIA a fun a => asIA b fun b => SO (ixN xs.length a) fun j => SO (xs[j]?) fun row => asL row fun ys => SO (ixN ys.length b) fun l => isF d = true ∧ Q.nx (ρ.set i (some (.lst true (xs.set j (.lst true (ys.set l d)))))) := by
  unfold stSub2
  split
  · rename_i xs h
    rw [h]
    dsimp only [so_some, asL_lst]
    cases e1 : qa ρ with
    | none => rfl
    | some a =>
      cases e2 : qb ρ with
      | none => cases a <;> rfl
      | some b =>
        cases a with
        | int a =>
          cases b with
          | int b =>
            dsimp only [so_some, asIA_int]
            cases ixN xs.length a with
            | none => rfl
            | some j =>
              dsimp only [so_some]
              split
              · rename_i ys h2
                rw [h2]
                dsimp only [so_some, asL_lst]
                cases ixN ys.length b with
                | none => rfl
                | some l =>
                  dsimp only [so_some]
                  split
                  · rename_i h3; simp [h3]
                  · rename_i h3; simp [h3, WP]
              · rename_i h2
                cases e : xs[j]? with
                | none => rfl
                | some x =>
                  dsimp only [so_some]
                  rw [asL_cases fun ys z => h2 ys (by rw [e, z])]
                  rfl
          | _ => rfl
        | _ => rfl
  · rename_i h
    cases e : ρ[i]? with
    | none => rfl
    | some o =>
      cases o with
      | none => rfl
      | some d =>
        dsimp only [so_some]
        rw [asL_cases fun xs z => h xs (by rw [e, z])]
        rfl
@[simp] theorem w_Yes {E : Exn → DL.Env → Prop} {P : Bool → DL.Env → Prop} : WO E P (dYes ρ) = P true ρ := rfl
@[simp] theorem wipeE_nil : wipeE ρ [] = ρ := rfl
@[simp] theorem wipeE_cons {v : Nat} {vs : List Nat} : wipeE ρ (v :: vs) = (wipeE ρ vs).set v none := rfl
variable {ρ1 : DL.Env} {v : Nat} {vs : List Nat}
@[simp] theorem backE_nil : backE ρ1 [] ρ = ρ := rfl
@[simp] theorem backE_none (h : ρ1[v]? = some none) : backE ρ1 (v :: vs) ρ = backE ρ1 vs ρ := by
  conv => lhs; unfold backE
  rw [h]
@[simp] theorem backE_some (h : ρ1[v]? = some (some d)) (hf : isF d = true) (hl : v < (backE ρ1 vs ρ).length) : backE ρ1 (v :: vs) ρ = (backE ρ1 vs ρ).set v (some d) := by
  conv => lhs; unfold backE
  rw [h]
  simp [hf, hl]
end
end DL
namespace DC
open PySem L2 DL
theorem intL_vec (n : Nat) : intL 0 n = vec n fun i => .a (.int (i : Int)) := by
  unfold intL vec
  apply List.map_congr_left
  intro a _
  simp
theorem vec_filter {n : Nat} {f : Nat → D} {tb : D → Bool} : (vec n f).filter tb = ((List.range n).filter fun i => tb (f i)).map f := by
  unfold vec
  rw [List.filter_map]
  rfl
theorem mem_vec {n : Nat} {f : Nat → D} {d : D} (h : d ∈ vec n f) : ∃ i, i < n ∧ d = f i := by
  obtain ⟨i, hi, e⟩ := List.mem_map.mp h
  exact ⟨i, by simpa using hi, e.symm⟩
@[simp] theorem o_itL {o : Bool} {xs : List D} {P : List D → Prop} : SO (itemsOf (.n .lst o xs)) P = (xs.length ≤ 1000000 ∧ P xs) := by
  unfold itemsOf
  by_cases h : xs.length ≤ 1000000 <;> simp [h]
@[simp] theorem o_itT {o : Bool} {xs : List D} {P : List D → Prop} : SO (itemsOf (.n .tup o xs)) P = (xs.length ≤ 1000000 ∧ P xs) := by
  unfold itemsOf
  by_cases h : xs.length ≤ 1000000 <;> simp [h]
def brow (o : Bool) (n : Nat) (T : Tb) (x : Nat) : D := .n .lst o (vec n fun y => .a (.bl (T x y)))
theorem isFL_brow {n : Nat} {T : Tb} : isFL (vec n (brow false n T)) = true := isFL_vec fun i _ => by
  unfold brow
  rw [isF_n, isFL_vec fun _ _ => rfl]
  rfl
end DC
namespace DC
open PySem L2 DL
def tbI (f : Nat → Bool) : D → Bool
  | .a (.int i) => f i.toNat
  | _ => false
theorem filter_vecI {n : Nat} {f : Nat → Bool} : ((vec n fun i => .a (.int (i : Int))).filter (tbI f)).map (fun d => d) = ((List.range n).filter f).map natD := by
  rw [vec_filter, List.map_map]
  unfold natD
  congr 1
theorem filter_range {f : Nat → Bool} {a : Nat} (h : ∀ z, a ≤ z → f z = false) : ∀ c, a ≤ c → (List.range c).filter f = (List.range a).filter f
  | 0, hc => by
    have : a = 0 := by omega
    rw [this]
  | c + 1, hc => by
    by_cases e : a = c + 1
    · rw [e]
    · rw [List.range_succ, List.filter_append, filter_range h c (by omega)]
      simp [h c (by omega)]
theorem bits_nat_lt (m : Nat) : m < 2 ^ Builtin.Int.intBits (m : Int) := by
  have := PySem.intBits_le_iff.mp (Nat.le_refl (Builtin.Int.intBits (m : Int)))
  simpa using this
theorem shr_bit (m x : Nat) : decide (Builtin.bitAnd ((m : Int) / 2 ^ x) 1 = 1) = m.testBit x := by
  rw [PyProof.Rows.bitAnd_m1, Nat.testBit_eq_decide_div_mod_eq]
  congr 1
  have : ((m : Int) / 2 ^ x) = ((m / 2 ^ x : Nat) : Int) := by simp
  rw [this]
  simp only [eq_iff_iff]
  omega
theorem members_eq {m n : Nat} (hm : m < 2 ^ n) (hn : n ≤ 100) : F_members [.a (.int (m : Int))] = .rt (.n .tup false (((List.range n).filter m.testBit).map natD)) none := by
  have hb : Builtin.Int.intBits (m : Int) ≤ n := PySem.intBits_le_iff.mpr (by simpa using hm)
  have hf : ∀ c, Builtin.Int.intBits (m : Int) ≤ c → (List.range c).filter m.testBit = (List.range (Builtin.Int.intBits (m : Int))).filter m.testBit := fun c hc => filter_range (fun z hz => Nat.testBit_lt_two_pow (Nat.lt_of_lt_of_le (bits_nat_lt m) (Nat.pow_le_pow_right (by decide) hz))) c hc
  apply wf_eq
  unfold F_members
  rw [wf_fn]
  unfold B_members
  simp [ioOf, intL_vec]
  refine ⟨by omega, ?_⟩
  rw [lcL_run (tbI m.testBit) (fun d => d)]
  · rw [wo_ok, filter_vecI, hf n hb]
    simp
  · intro d hd
    obtain ⟨i, hi, rfl⟩ := mem_vec hd
    simp [shr_bit, tbI]
theorem isF_ord {n : Nat} {ms : List D} (h : isFL ms = true) : isF (ordD n ms) = true := by
  unfold ordD
  simp [h]
abbrev ordT (n : Nat) (T : Tb) : D := ordD n (vec n (mrow n T))
theorem isF_ordT {n : Nat} {T : Tb} : isF (ordT n T) = true := isF_ord isFL_mrow
end DC
namespace DC
open PySem L2 DL
def Bd (n : Nat) (ps : List (Nat × Nat)) : Prop := ∀ p ∈ ps, p.1 < n ∧ p.2 < n
theorem Acyc.bd {n : Nat} {ps : List (Nat × Nat)} (h : Acyc n ps) : Bd n ps := by
  obtain ⟨r, hr⟩ := h
  exact fun p hp => ⟨(hr p hp).1, (hr p hp).2.1⟩
theorem Acyc.up {n : Nat} {ps : List (Nat × Nat)} (h : Acyc n ps) : ∃ r : Nat → Nat, Up n r (clo n ps) := by
  obtain ⟨r, hr⟩ := h
  exact ⟨r, up_clo hr⟩
def covs (n : Nat) (T : Tb) : Nat → Nat → Bool := fun x y => T x y && (List.range n).all fun z => !(T x z && T z y)
end DC
namespace DC
open PySem L2 DL
def setm (l : List Nat) : Nat := l.foldl (fun m z => m ||| 2 ^ z) 0
theorem foldl_take {α β : Type} {g : β → α → β} {b : β} {l : List α} {i : Nat} {x : α} (h : l[i]? = some x) : (l.take (i + 1)).foldl g b = g ((l.take i).foldl g b) x := by
  rw [List.take_succ, h, List.foldl_append]
  rfl
theorem set_of_eq {k : Kd} (hk : k = .lst ∨ k = .tup) {l : List Nat} (hl : l.length ≤ 1000000) (hb : ∀ x ∈ l, x ≤ 1000000) : F_set_of [.n k false (l.map natD)] = .rt (.a (.int ((setm l : Nat) : Int))) none := by
  apply wf_eq
  unfold F_set_of
  rw [wf_fn]
  unfold B_set_of
  have hi : ∀ P : List D → Prop, SO (itemsOf (.n k false (l.map natD))) P = P (l.map natD) := by
    intro P
    rcases hk with e | e <;> subst e <;> simp [hl]
  simp [ioOf, hi]
  refine wp_for (fun i ρ => ∃ v : Option D, ρ = [some (.n k false (l.map natD)), some (.a (.int (((l.take i).foldl (fun m z => m ||| 2 ^ z) 0 : Nat) : Int))), v]) ?_ ?_ ?_
  · exact ⟨none, by simp⟩
  · intro i d ρ hd h
    obtain ⟨v, hρ⟩ := h
    subst hρ
    obtain ⟨x, hx, e⟩ := natD_get hd
    subst e
    have hx2 := hb x (List.mem_of_getElem? hx)
    rw [foldl_take hx]
    simp [natD, o_shl1 hx2]
    rw [show (2 : Int) ^ x = ((2 ^ x : Nat) : Int) by simp, bor_nat]
  · intro ρ h
    obtain ⟨v, hρ⟩ := h
    subst hρ
    simp [setm]
end DC
namespace DC
open PySem L2 DL
def rowp (n : Nat) (T : Tb) (x : Nat) : List (Nat × Nat) := ((List.range n).filter (T x)).map fun y => (x, y)
def prs (n : Nat) (T : Tb) : List (Nat × Nat) := (List.range n).flatMap (rowp n T)
end DC
namespace DC
open PySem L2 DL
theorem eqA_refl (x : At) : eqA x x = true := by cases x <;> simp [eqA]
mutual
theorem eqD_refl : ∀ (n : Nat) (d : D), pD n d = true → eqD d d = true
  | _, .a x, _ => by rw [eqD]; exact eqA_refl x
  | 0, .n .tup _ _, h => by simp [pD] at h
  | 0, .n .lst _ _, h => by simp [pD] at h
  | n + 1, .n .tup _ xs, h => by
    rw [eqD]
    exact eqDL_refl n xs (by simpa [pD] using h)
  | n + 1, .n .lst _ xs, h => by
    rw [eqD]
    exact eqDL_refl n xs (by simpa [pD] using h)
  | _, .n .scr _ _, h => by simp [pD] at h
  | _, .n (.dct _) _ _, h => by simp [pD] at h
  | _, .n (.ins _ _) _ _, h => by simp [pD] at h
theorem eqDL_refl : ∀ (n : Nat) (xs : List D), pDL n xs = true → eqDL xs xs = true
  | _, [], _ => by simp [eqDL]
  | n, x :: xs, h => by
    rw [pDL, Bool.and_eq_true] at h
    rw [eqDL, eqD_refl n x h.1, eqDL_refl n xs h.2]
    rfl
end
theorem pDL_all {m : Nat} : ∀ {xs : List D}, (∀ x ∈ xs, pD m x = true) → pDL m xs = true
  | [], _ => by simp [pDL]
  | x :: xs, h => by
    rw [pDL, h x (by simp), pDL_all fun y hy => h y (List.mem_cons_of_mem _ hy)]
    rfl
theorem ne_same {k : Kd} {o o' : Bool} {xs : List D} {P : D → Prop} (hk : k = .tup ∨ k = .lst) (h : ∀ x ∈ xs, pD 59 x = true) : SO (gNe (.n k o xs) (.n k o' xs)) P = P (.a (.bl false)) := by
  have h1 := pDL_all h
  have h2 := eqDL_refl 59 xs h1
  unfold gNe gOr gNeA gNeP
  rcases hk with e | e <;> subst e <;> simp [pD, h1, eqD, h2]
end DC
namespace DC
open PySem L2 DL
end DC
namespace DC
open PySem L2 DL
end DC
namespace DC
open PySem L2 DL
def Irr (n : Nat) (T : Tb) : Prop := ∀ x, x < n → T x x = false
end DC
namespace DL
open PySem L2
@[irreducible] def WX (Q : Ps) (f : DL.Env → Fl) (ρ : DL.Env) : Prop := WP Q (f ρ)
@[simp] theorem wx {Q : Ps} {f : DL.Env → Fl} {ρ : DL.Env} : WX Q f ρ = WP Q (f ρ) := by unfold WX; rfl
theorem wp_step {Q : Ps} {f g : DL.Env → Fl} {ρ : DL.Env} (h : ∀ K : DL.Env → Prop, (∀ ρ', WP Q (g ρ') → K ρ') → WX ⟨K, Q.rt, Q.bk, Q.ct, Q.ex⟩ f ρ) : WP Q (dSeq f g ρ) := by
  rw [p_Seq]
  have := h _ fun _ h => h
  rwa [wx] at this
theorem wp_cut {Q : Ps} {f g : DL.Env → Fl} {ρ : DL.Env} (R : DL.Env → Prop) (h1 : WP ⟨R, Q.rt, Q.bk, Q.ct, Q.ex⟩ (f ρ)) (h2 : ∀ ρ', R ρ' → WP Q (g ρ')) : WP Q (dSeq f g ρ) := by
  rw [p_Seq]
  cases hf : f ρ with
  | nx ρ1 => rw [hf] at h1; exact h2 _ h1
  | rt d ρ1 => rw [hf] at h1; exact h1
  | bk ρ1 => rw [hf] at h1; exact h1
  | ct ρ1 => rw [hf] at h1; exact h1
  | ex e ρ1 => rw [hf] at h1; exact h1
  | st => rw [hf] at h1; exact h1
theorem wp_cutK {Q : Ps} {f g : DL.Env → Fl} {ρ : DL.Env} (R : DL.Env → Prop) (h1 : ∀ K : DL.Env → Prop, (∀ ρ', R ρ' → K ρ') → WX ⟨K, Q.rt, Q.bk, Q.ct, Q.ex⟩ f ρ) (h2 : ∀ ρ', R ρ' → WP Q (g ρ')) : WP Q (dSeq f g ρ) := wp_cut R (by have := h1 R fun _ h => h; rwa [wx] at this) h2
section
variable {C : Str} {F : List D → FR} {fs gs : List Str} {xs ys : List D} {b neg : Bool} {io : Option D} {P : D → Prop}
end
end DL
namespace DC
open PySem L2 DL
theorem so_eqP {d e : D} {P : D → Prop} (h1 : pD 60 d = true) (h2 : pD 60 e = true) (h3 : ∀ x y, ¬ (d = .a x ∧ e = .a y)) : SO (gEq d e) P = P (.a (.bl (eqD d e))) := by
  unfold gEq gOr gEqP
  have : gEqA d e = none := by
    unfold gEqA
    split
    · rename_i x y
      exact absurd ⟨rfl, rfl⟩ (h3 x y)
    · rfl
  rw [this]
  simp [h1, h2]
instance {n : Nat} {T : Tb} : Decidable (Irr n T) := inferInstanceAs (Decidable (∀ x, x < n → T x x = false))
end DC
namespace DL
open PySem L2
theorem get_set_self {ρ : DL.Env} {i : Nat} {o : Option D} (h : i < ρ.length) : (ρ.set i o)[i]? = some o := by rw [List.getElem?_set_self h]
theorem get_set_ne {ρ : DL.Env} {i j : Nat} {o : Option D} (h : i ≠ j) : (ρ.set i o)[j]? = ρ[j]? := by rw [List.getElem?_set_ne h]
theorem set_set {ρ : DL.Env} {i : Nat} {o o' : Option D} : (ρ.set i o).set i o' = ρ.set i o' := List.set_set ..
theorem back_same {ρ : DL.Env} {v : Nat} (h : ∀ d, ρ[v]? = some (some d) → isF d = true) : backE ρ [v] (wipeE ρ [v]) = ρ := by
  rw [wipeE_cons, wipeE_nil]
  unfold backE
  cases e : ρ[v]? with
  | none =>
    rw [backE_nil]
    have hl : ρ.length ≤ v := List.getElem?_eq_none_iff.mp e
    exact List.set_eq_of_length_le hl
  | some o =>
    have hl : v < ρ.length := (List.getElem?_eq_some_iff.mp e).1
    cases o with
    | none =>
      dsimp only
      rw [backE_nil]
      apply List.ext_getElem?
      intro j
      by_cases q : v = j
      · subst q; rw [List.getElem?_set_self hl, e]
      · rw [List.getElem?_set_ne q]
    | some d =>
      dsimp only
      rw [backE_nil, if_pos ⟨h d e, by rw [List.length_set]; exact hl⟩, List.set_set]
      apply List.ext_getElem?
      intro j
      by_cases q : v = j
      · subst q; rw [List.getElem?_set_self hl, e]
      · rw [List.getElem?_set_ne q]
theorem w_lcF {E : Exn → DL.Env → Prop} {P : D → DL.Env → Prop} {ρ : DL.Env} {v : Nat} {src : DL.Env → Out (List D)} {t : DL.Env → Out Bool} {f : DL.Env → Out D} {ds : List D} (tb : D → Bool) (fv : D → D) (hv : ∀ d, ρ[v]? = some (some d) → isF d = true) (hl : v < ρ.length) (hsrc : src ρ = .ok ds ρ) (hc : ds.length ≤ 1000000)
    (ht : ∀ d ∈ ds, t (ρ.set v (some d)) = .ok (tb d) (ρ.set v (some d))) (hf : ∀ d ∈ ds, tb d = true → f (ρ.set v (some d)) = .ok (fv d) (ρ.set v (some d))) :
    WO E P (dLc [v] src (tg1 v) t f ρ) = P (.lst true ((ds.filter tb).map fv)) ρ := by
  rw [w_Lc, hsrc]
  simp only [wo_ok, capv, hc, true_and]
  have hw : wipeE ρ [v] = ρ.set v none := rfl
  rw [lcL_run tb fv]
  · rw [wo_ok, hw]
    have : wipeE (ρ.set v none) [v] = wipeE ρ [v] := by simp [wipeE]
    rw [this, back_same hv]
  · intro d hd
    rw [hw]
    rw [s_tg1]
    refine ⟨by rw [List.length_set]; exact hl, ?_⟩
    rw [List.set_set, ht d hd, wo_ok]
    refine ⟨rfl, ?_⟩
    cases h : tb d with
    | true =>
      rw [if_pos rfl, hf d hd h, wo_ok]
      exact ⟨rfl, by simp [wipeE]⟩
    | false =>
      rw [if_neg (by decide)]
      simp [wipeE]
theorem out_eq {α : Type} {o : Out α} {x : α} {ρ : DL.Env} (h : WO NoE (fun y ρ' => y = x ∧ ρ' = ρ) o) : o = .ok x ρ := by
  cases o with
  | ok y ρ' => obtain ⟨rfl, rfl⟩ := h; rfl
  | ex e ρ' => exact h.elim
  | st => exact h.elim
end DL
namespace DC
open PySem L2 DL
def natOf : D → Nat
  | .a (.int i) => i.toNat
  | _ => 0
@[simp] theorem natOf_int {i : Nat} : natOf (.a (.int (i : Int))) = i := rfl
@[simp] theorem natOf_natD {i : Nat} : natOf (natD i) = i := rfl
end DC
namespace DL
open PySem L2
end DL
namespace DC
open PySem L2 DL
def Tr (n : Nat) (T : Tb) : Prop := ∀ a b c, a < n → b < n → c < n → T a b = true → T b c = true → T a c = true
theorem mem_rowp {n : Nat} {T : Tb} {z x y : Nat} : (x, y) ∈ rowp n T z ↔ x = z ∧ y < n ∧ T z y = true := by
  unfold rowp
  rw [List.mem_map]
  constructor
  · rintro ⟨w, hw, e⟩
    rw [List.mem_filter, List.mem_range] at hw
    cases e
    exact ⟨rfl, hw⟩
  · rintro ⟨rfl, h⟩
    exact ⟨y, List.mem_filter.mpr ⟨List.mem_range.mpr h.1, h.2⟩, rfl⟩
theorem mem_prs {n : Nat} {T : Tb} {x y : Nat} : (x, y) ∈ prs n T ↔ x < n ∧ y < n ∧ T x y = true := by
  unfold prs
  rw [List.mem_flatMap]
  constructor
  · rintro ⟨z, hz, h⟩
    obtain ⟨rfl, h⟩ := mem_rowp.mp h
    exact ⟨List.mem_range.mp hz, h⟩
  · rintro ⟨h1, h⟩
    exact ⟨x, List.mem_range.mpr h1, mem_rowp.mpr ⟨rfl, h⟩⟩
theorem frz_ordT {n : Nat} {T : Tb} : frz (ordT n T) = ordT n T := frz_isF _ isF_ordT
end DC
namespace DC
open PySem L2 DL
@[simp] theorem o_listT {o : Bool} {xs : List D} {P : D → Prop} : SO (gList (.n .tup o xs)) P = P (.lst true xs) := rfl
def fstD : D → Nat
  | .n _ _ (d :: _) => natOf d
  | _ => 0
def sndD : D → Nat
  | .n _ _ (_ :: d :: _) => natOf d
  | _ => 0
@[simp] theorem fstD_pr {p : Nat × Nat} : fstD (prD p) = p.1 := rfl
@[simp] theorem sndD_pr {p : Nat × Nat} : sndD (prD p) = p.2 := rfl
end DC
namespace DL
open PySem L2
section
variable {Q : Ps} {ρ : DL.Env} {i j : Nat} {g : DL.Env → Out (List Ag)}
def as2 (ds : List Ag) (P : D → D → Prop) : Prop := match ds with
  | [.d a, .d b] => P a b
  | _ => False
@[simp] theorem as2_two {a b : D} {P : D → D → Prop} : as2 [.d a, .d b] P = P a b := rfl
@[simp] theorem p_Par : WP Q (dPar i j g ρ) = WO Q.ex (fun ds ρ1 => as2 ds fun a b => (i < ρ1.length ∧ j < ρ1.length) ∧ Q.nx ((ρ1.set i (some a)).set j (some b))) (g ρ) := by
  unfold dPar
  cases g ρ with
  | st => rfl
  | ex e ρ1 => rfl
  | ok ds ρ1 =>
    dsimp only [wo_ok]
    match ds with
    | [] => rfl
    | [.s _] => rfl
    | [.d _] => rfl
    | [.s _, .s _] => rfl
    | [.s _, .d _] => rfl
    | [.d _, .s _] => rfl
    | [.d a, .d b] =>
      dsimp only [as2]
      split
      · rename_i h; simp [h]
      · rename_i h; simp only [h, false_and]; rfl
    | _ :: _ :: _ :: _ =>
      rename_i a b c d
      cases a <;> cases b <;> rfl
end
theorem wp_forK {Q : Ps} {ρ : DL.Env} {f : DL.Env → Fl} {g : D → DL.Env → Option DL.Env} {ds : List D} (I : Nat → DL.Env → Prop) (h0 : I 0 ρ)
    (hs : ∀ i d ρ, ds[i]? = some d → I i ρ → ∀ J : DL.Env → Prop, (∀ ρ', I (i + 1) ρ' → J ρ') → SO (g d ρ) fun ρ1 => WP ⟨J, Q.rt, Q.nx, J, Q.ex⟩ (f ρ1)) (he : ∀ ρ, I ds.length ρ → Q.nx ρ) : WP Q (forL g f ds ρ) :=
  wp_for I h0 (fun i d ρ hd h => hs i d ρ hd h _ fun _ h => h) he
end DL
namespace DC
open PySem L2 DL
theorem catL {o o' : Bool} {xs ys : List D} {P : D → Prop} (h1 : isFL xs = true) (h2 : isFL ys = true) (hl : xs.length + ys.length ≤ 1000000) : SO (gAdd (.n .lst o xs) (.n .lst o' ys)) P = P (.lst true (xs ++ ys)) := by
  unfold gAdd gOr gAddI gII gCatL
  simp [hl, h1, h2]
theorem catT {o o' : Bool} {xs ys : List D} {P : D → Prop} (h1 : isFL xs = true) (h2 : isFL ys = true) (hl : xs.length + ys.length ≤ 1000000) : SO (gAdd (.n .tup o xs) (.n .tup o' ys)) P = P (.tup (xs ++ ys)) := by
  unfold gAdd gOr gAddI gII gCatL gCatT
  simp [hl, h1, h2]
end DC
namespace DL
open PySem L2
@[simp] theorem p_Ext {Q : Ps} {ρ : DL.Env} {i : Nat} {o : Bool} {ys : List D} : WP Q (stExt i (.n .lst o ys) ρ) = SO (ρ[i]?) (fun o => SO o fun x => asL x fun xs => (xs.length + ys.length ≤ cap ∧ isFL ys = true) ∧ Q.nx (ρ.set i (some (.lst true (xs ++ ys))))) := by
  unfold stExt
  split
  · rename_i xs h
    rw [h]
    dsimp only [so_some, asL_lst]
    split
    · rename_i h; simp [h]
    · rename_i h; simp only [h, false_and]; rfl
  · rename_i h
    cases e : ρ[i]? with
    | none => rfl
    | some o =>
      cases o with
      | none => rfl
      | some d =>
        dsimp only [so_some]
        rw [asL_cases fun xs z => h xs (by rw [e, z])]
        rfl
end DL
namespace DC
open PySem L2 DL
def stt (s : Nat → Nat) : Nat → Nat
  | 0 => 0
  | x + 1 => stt s x + s x
open Classical in
noncomputable def lexT (m : Nat) (s : Nat → Nat) (A : Tb) (B : Nat → Tb) : Tb := fun p q => decide (∃ x i y k, x < m ∧ i < s x ∧ y < m ∧ k < s y ∧ p = stt s x + i ∧ q = stt s y + k ∧ (A x y = true ∨ (x = y ∧ B x i k = true)))
def blk (s : Nat → Nat) (p : Nat × Nat) : List (Nat × Nat) := (List.range (s p.1)).flatMap fun i => (List.range (s p.2)).map fun k => (stt s p.1 + i, stt s p.2 + k)
end DC
namespace DL
open PySem L2
end DL
namespace DC
open PySem L2 DL
def rowD (ps : List (Nat × Nat)) : D := .n .lst false (ps.map DC.prD)
@[simp] theorem isF_rowD {ps : List (Nat × Nat)} : isF (rowD ps) = true := by unfold rowD; simp
@[simp] theorem frz_rowD {ps : List (Nat × Nat)} : frz (rowD ps) = rowD ps := frz_isF _ isF_rowD
def tabD (n : Nat) (T : Tb) : D := .n .lst false (vec n (brow false n T))
@[simp] theorem isF_tabD {n : Nat} {T : Tb} : isF (tabD n T) = true := by unfold tabD; simp [isFL_brow]
@[simp] theorem frz_tabD {n : Nat} {T : Tb} : frz (tabD n T) = tabD n T := frz_isF _ isF_tabD
@[simp] theorem isF_brow' {n a : Nat} {T : Tb} : isF (brow false n T a) = true := by
  unfold brow; rw [isF_n, isFL_vec fun _ _ => rfl]; rfl
end DC
namespace DC
open PySem L2 DL
end DC
namespace DL
open PySem L2
end DL
namespace DC
open PySem L2 DL
end DC
namespace DC
open PySem L2 DL
def up1 (c : Nat) : List Nat := (List.range c).map (· + 1)
def dv (k : Nat) : List Nat := (up1 k).filter fun d => decide (k % d = 0)
def lowN (c k : Nat) : List Nat := (up1 c).filter fun d => decide (k % d = 0) && decide (d * d ≤ k)
theorem low_eq {k : Nat} (hk : k ≤ 400) : lowN 1000 k = lowN 20 k := by
  unfold lowN up1
  rw [List.filter_map, List.filter_map]
  congr 1
  refine filter_range (fun z hz => ?_) 1000 (by decide)
  have : 21 * 21 ≤ (z + 1) * (z + 1) := Nat.mul_le_mul (by omega) (by omega)
  have h2 : ¬ (z + 1) * (z + 1) ≤ k := by omega
  simp [h2]
def dg (k i : Nat) : Nat := (dv k).getD i 0
end DC
namespace DC
open PySem L2 DL
end DC
namespace DC
open PySem L2 DL
def tupN (l : List Nat) : D := .n .tup false (l.map natD)
@[simp] theorem isF_tupN {l : List Nat} : isF (tupN l) = true := by unfold tupN; simp
@[simp] theorem frz_tupN {l : List Nat} : frz (tupN l) = tupN l := frz_isF _ isF_tupN
def ascN (n : Nat) : Nat → List Nat → Bool
  | _, [] => true
  | lo, x :: l => decide (lo ≤ x) && (decide (x < n) && ascN n (x + 1) l)
theorem ascN_lt {n : Nat} : ∀ {l : List Nat} {lo : Nat}, ascN n lo l = true → ∀ x ∈ l, x < n
  | [], _, _, x, hx => by simp at hx
  | y :: l, lo, h, x, hx => by
    unfold ascN at h
    rw [Bool.and_eq_true, Bool.and_eq_true] at h
    rcases List.mem_cons.mp hx with rfl | hx
    · exact of_decide_eq_true h.2.1
    · exact ascN_lt h.2.2 x hx
theorem setm_bit {l : List Nat} {y : Nat} : (setm l).testBit y = decide (y ∈ l) := by
  have key : ∀ (l : List Nat) (m : Nat), (l.foldl (fun m z => m ||| 2 ^ z) m).testBit y = (m.testBit y || decide (y ∈ l)) := by
    intro l
    induction l with
    | nil => intro m; simp
    | cons x l ih =>
      intro m
      rw [List.foldl_cons, ih, Nat.testBit_or, Nat.testBit_two_pow]
      by_cases e : x = y
      · subst e; simp
      · have e2 : ¬ y = x := fun q => e q.symm
        simp [e, e2]
  unfold setm
  rw [key]
  simp
def fits (T : Tb) (r : Bool) (l : List Nat) : Bool := l.all fun x => l.all fun y => decide (x = y) || ((T x y || T y x) == r)
end DC
namespace DC
open PySem L2 DL
theorem eqDL_ints : ∀ (a b : List Int), eqDL (a.map D.int) (b.map D.int) = decide (a = b)
  | [], [] => by simp [eqDL]
  | [], y :: b => by simp [eqDL]
  | x :: a, [] => by simp [eqDL]
  | x :: a, y :: b => by
    rw [List.map_cons, List.map_cons, eqDL, eqDL_ints a b, eqD]
    simp [eqA]
    rw [Bool.eq_iff_iff]
    simp
theorem pDL_ints {m : Nat} {a : List Int} : pDL m (a.map D.int) = true := pDL_all fun x hx => by
  obtain ⟨i, _, rfl⟩ := List.mem_map.mp hx
  simp [pD]
theorem o_eqLI {o o' : Bool} {a b : List Int} {P : D → Prop} : SO (gEq (.n .lst o (a.map D.int)) (.n .lst o' (b.map D.int))) P = P (.a (.bl (decide (a = b)))) := by
  rw [so_eqP (by simp [pD, pDL_ints]) (by simp [pD, pDL_ints]) (fun x y h => by cases h.1), eqD, eqDL_ints]
def parD (Ps : List (List Nat)) : D := .n .tup false (Ps.map tupN)
@[simp] theorem isF_parD {Ps : List (List Nat)} : isF (parD Ps) = true := by
  unfold parD
  rw [isF_n, isFL_map fun _ => isF_tupN]
  rfl
@[simp] theorem frz_parD {Ps : List (List Nat)} : frz (parD Ps) = parD Ps := frz_isF _ isF_parD
def natsOf : D → List Nat
  | .n _ _ xs => xs.map natOf
  | _ => []
@[simp] theorem natsOf_tupN {l : List Nat} : natsOf (tupN l) = l := by
  show (l.map natD).map natOf = l
  rw [List.map_map]
  exact List.map_id' l
end DC
namespace DC
open PySem L2 DL
end DC
namespace DC
open PySem L2 DL
end DC
namespace DC
open PySem L2 DL
abbrev Fi : Type := Nat → Nat → Int
def Sup (n : Nat) (T : Tb) (f : Fi) : Prop := ∀ x y, x < n → y < n → f x y ≠ 0 → x = y ∨ T x y = true
end DC
namespace DC
open PySem L2 DL
def oneF : Fi := fun x y => if x = y then 1 else 0
end DC
namespace DC
open PySem L2 DL
theorem src_rng {ρ : DL.Env} {f : DL.Env → Out D} {n : Nat} (h : f ρ = .ok (.a (.int (n : Int))) ρ) (hn : n ≤ 1000) : dRng1 f ρ = .ok (vec n fun i => .a (.int (i : Int))) ρ := by
  apply out_eq
  rw [w_Rng1, h]
  simp [intL_vec]
  omega
theorem var_eq {ρ : DL.Env} {i : Nat} {d : D} (h : ρ[i]? = some (some d)) (hf : isF d = true) : dVar i ρ = .ok d ρ := by
  apply out_eq
  simp [h, hf]
end DC
namespace DC
open PySem L2 DL
structure RowOk (n : Nat) (T : Tb) (x : Nat) (r : Nat → Int) : Prop where
  bd : ∀ y, y < n → (r y).natAbs ≤ 2
  su : ∀ y, y < n → r y ≠ 0 → x = y ∨ T x y = true
  dg : x < n → r x = 1 ∨ r x = -1
theorem sum_succ {g : Nat → Int} {i : Nat} : ((List.range (i + 1)).map g).sum = ((List.range i).map g).sum + g i := by
  rw [List.range_succ, List.map_append, List.sum_append]
  simp
end DC
namespace DC
open PySem L2 DL
theorem anyEq_int {z : Int} : ∀ {l : List Int}, anyEq (.a (.int z)) (l.map D.int) = decide (z ∈ l)
  | [] => by simp [anyEq]
  | y :: l => by
    rw [List.map_cons]
    unfold anyEq
    rw [anyEq_int (l := l)]
    have : eqD (.a (.int y)) (.a (.int z)) = decide (y = z) := by
      show eqA (.int y) (.int z) = _
      simp [eqA]
      rw [Bool.eq_iff_iff]; simp
    rw [this]
    by_cases e : y = z
    · simp [e]
    · have e2 : ¬ z = y := fun h => e h.symm
      simp [e, e2]
theorem pDL_int {m : Nat} : ∀ {l : List Int}, pDL m (l.map D.int) = true
  | [] => rfl
  | y :: l => by
    show (pD m (.a (.int y)) && pDL m (l.map D.int)) = true
    rw [pDL_int (l := l)]
    rfl
theorem gInB_ints {k : Kd} (hk : k = .lst ∨ k = .tup) {z : Int} {o : Bool} {l : List Int} : gInB (.a (.int z)) (.n k o (l.map D.int)) = some (decide (z ∈ l)) := by
  rcases hk with rfl | rfl
  · show (if pD 60 (.a (.int z)) = true ∧ pDL 60 (l.map D.int) = true then some (anyEq (.a (.int z)) (l.map D.int)) else none) = _
    rw [pDL_int, anyEq_int]
    rfl
  · have : (l.map D.int).all isA = true := by simp [List.all_map, isA]
    unfold gInB
    dsimp only
    rw [if_pos ⟨rfl, this⟩, anyEq_int]
theorem o_inI {k : Kd} (hk : k = .lst ∨ k = .tup) {z : Int} {o : Bool} {l : List Int} {P : D → Prop} : SO (gIn (.a (.int z)) (.n k o (l.map D.int))) P = P (.a (.bl (decide (z ∈ l)))) := by
  unfold gIn
  rw [gInB_ints hk]
  rfl
theorem o_notinI {k : Kd} (hk : k = .lst ∨ k = .tup) {z : Int} {o : Bool} {l : List Int} {P : D → Prop} : SO (gNotIn (.a (.int z)) (.n k o (l.map D.int))) P = P (.a (.bl (!decide (z ∈ l)))) := by
  unfold gNotIn
  rw [gInB_ints hk]
  rfl
theorem natD_int (l : List Nat) : l.map natD = (l.map fun (n : Nat) => (n : Int)).map D.int := by
  rw [List.map_map]; rfl
theorem mem_nat {z : Nat} {l : List Nat} : ((z : Int) ∈ l.map fun (n : Nat) => (n : Int)) ↔ z ∈ l := by
  rw [List.mem_map]
  constructor
  · rintro ⟨a, ha, e⟩
    have : a = z := by omega
    subst this; exact ha
  · intro h; exact ⟨z, h, rfl⟩
theorem o_inN {k : Kd} (hk : k = .lst ∨ k = .tup) {z : Nat} {o : Bool} {l : List Nat} {P : D → Prop} : SO (gIn (.a (.int (z : Int))) (.n k o (l.map natD))) P = P (.a (.bl (decide (z ∈ l)))) := by
  rw [natD_int, o_inI hk]
  rw [decide_eq_decide.mpr mem_nat]
theorem o_notinN {k : Kd} (hk : k = .lst ∨ k = .tup) {z : Nat} {o : Bool} {l : List Nat} {P : D → Prop} : SO (gNotIn (.a (.int (z : Int))) (.n k o (l.map natD))) P = P (.a (.bl (!decide (z ∈ l)))) := by
  rw [natD_int, o_notinI hk]
  rw [decide_eq_decide.mpr mem_nat]
theorem minimal_ex {n : Nat} {T : Tb} (tT : Tr n T) (iT : Irr n T) : ∀ {r : List Nat}, (∀ z ∈ r, z < n) → r ≠ [] → ∃ m ∈ r, ∀ z ∈ r, T z m = false
  | [], _, h => absurd rfl h
  | [a], hb, _ => ⟨a, by simp, fun z hz => by
      have : z = a := by simpa using hz
      subst this; exact iT z (hb z (by simp))⟩
  | a :: b :: r, hb, _ => by
    obtain ⟨m, hm, hmin⟩ := minimal_ex tT iT (r := b :: r) (fun z hz => hb z (by simp [hz])) (by simp)
    cases h : T a m with
    | false =>
      refine ⟨m, by simp [hm], fun z hz => ?_⟩
      rcases List.mem_cons.mp hz with rfl | hz
      · exact h
      · exact hmin z hz
    | true =>
      refine ⟨a, by simp, fun z hz => ?_⟩
      rcases List.mem_cons.mp hz with rfl | hz
      · exact iT z (hb z (by simp))
      · cases h2 : T z a with
        | false => rfl
        | true =>
          have := tT z a m (hb z (by simp [hz])) (hb a (by simp)) (hb m (List.mem_cons_of_mem _ hm)) h2 h
          rw [hmin z hz] at this
          cases this
structure UpL (n : Nat) (T : Tb) (x : Nat) (l : List Nat) : Prop where
  nd : l.Nodup
  hd : l[0]? = some x
  up : ∀ y ∈ l, y = x ∨ (y < n ∧ T x y = true)
  bh : ∀ (i y : Nat), l[i]? = some y → ∀ z, z < n → T z y = true → T x z = true → z ∈ l.take i
end DC
namespace DC
open PySem L2 DL
def Sm (n : Nat) (f : Nat → Int) : Int := ((List.range n).map f).sum
theorem Sm_zero {f : Nat → Int} : Sm 0 f = 0 := rfl
theorem Sm_succ {n : Nat} {f : Nat → Int} : Sm (n + 1) f = Sm n f + f n := sum_succ
theorem Sm_congr {n : Nat} {f g : Nat → Int} (h : ∀ i, i < n → f i = g i) : Sm n f = Sm n g := by
  unfold Sm
  congr 1
  exact List.map_congr_left fun i hi => h i (List.mem_range.mp hi)
theorem Sm_add {f g : Nat → Int} : ∀ {n : Nat}, Sm n (fun i => f i + g i) = Sm n f + Sm n g
  | 0 => rfl
  | n + 1 => by rw [Sm_succ, Sm_succ, Sm_succ, Sm_add]; omega
theorem Sm_mulL {a : Int} {f : Nat → Int} : ∀ {n : Nat}, Sm n (fun i => a * f i) = a * Sm n f
  | 0 => by simp [Sm_zero]
  | n + 1 => by rw [Sm_succ, Sm_succ, Sm_mulL, Int.mul_add]
theorem Sm_zeros {n : Nat} {f : Nat → Int} (h : ∀ i, i < n → f i = 0) : Sm n f = 0 := by
  rw [Sm_congr (g := fun _ => 0) h]
  induction n with
  | zero => rfl
  | succ n ih => rw [Sm_succ, ih fun i hi => h i (by omega)]; rfl
theorem Sm_pick {n c : Nat} {f : Nat → Int} (hc : c < n) (h : ∀ i, i < n → i ≠ c → f i = 0) : Sm n f = f c := by
  induction n with
  | zero => omega
  | succ n ih =>
    rw [Sm_succ]
    by_cases e : c = n
    · subst e
      rw [Sm_zeros fun i hi => h i (by omega) (by omega)]
      omega
    · rw [ih (by omega) fun i hi => h i (by omega), h n (by omega) (Ne.symm e)]
      omega
theorem Sm_set {n c : Nat} {f g : Nat → Int} (hc : c < n) (h : ∀ i, i < n → i ≠ c → g i = f i) : Sm n g = Sm n f + (g c - f c) := by
  have e : Sm n g = Sm n (fun i => f i + (g i - f i)) := Sm_congr fun i _ => by omega
  rw [e, Sm_add, Sm_pick (f := fun i => g i - f i) hc fun i hi hne => by rw [h i hi hne]; omega]
theorem Sm_abs {f : Nat → Int} : ∀ {n : Nat}, (Sm n f).natAbs ≤ (Sm n fun i => (f i).natAbs).toNat
  | 0 => by simp [Sm_zero]
  | n + 1 => by
    have ih := Sm_abs (f := f) (n := n)
    have hp : ∀ n, 0 ≤ Sm n fun i => ((f i).natAbs : Int) := fun n => by
      induction n with
      | zero => simp [Sm_zero]
      | succ n ih => rw [Sm_succ]; omega
    rw [Sm_succ, Sm_succ]
    have h1 := hp n
    omega
theorem Sm_le {f g : Nat → Int} : ∀ {n : Nat}, (∀ i, i < n → f i ≤ g i) → Sm n f ≤ Sm n g
  | 0, _ => by simp [Sm_zero]
  | n + 1, h => by
    rw [Sm_succ, Sm_succ]
    have := Sm_le (n := n) fun i hi => h i (by omega)
    have := h n (by omega)
    omega
theorem Sm_nonneg {f : Nat → Int} {n : Nat} (h : ∀ i, i < n → 0 ≤ f i) : 0 ≤ Sm n f := by
  have := Sm_le (f := fun _ => 0) h
  rw [Sm_zeros fun _ _ => rfl] at this
  exact this
theorem Sm_one {f : Nat → Int} {n c : Nat} (hc : c < n) (h : ∀ i, i < n → 0 ≤ f i) : f c ≤ Sm n f := by
  have := Sm_le (n := n) (f := fun i => if i = c then f c else 0) (g := f) fun i hi => by
    by_cases e : i = c
    · subst e; simp
    · simp [e]; exact h i hi
  rw [Sm_pick hc (fun i _ hne => by simp [hne])] at this
  simpa using this
theorem filter_lt {p q : Nat → Bool} : ∀ {l : List Nat}, (∀ z ∈ l, p z = true → q z = true) → (∃ z ∈ l, q z = true ∧ p z = false) → (l.filter p).length < (l.filter q).length
  | [], _, ⟨z, hz, _⟩ => by cases hz
  | a :: l, h, ⟨z, hz, h1, h2⟩ => by
    have hsub : ∀ {l : List Nat}, (∀ z ∈ l, p z = true → q z = true) → (l.filter p).length ≤ (l.filter q).length := fun {l} h => by
      induction l with
      | nil => simp
      | cons b l ih =>
        have i1 := ih fun z hz => h z (by simp [hz])
        have i2 := h b (by simp)
        cases hp : p b with
        | true => simp [hp, i2 hp]; exact i1
        | false =>
          cases hq : q b <;> simp [hp, hq] <;> omega
    rcases List.mem_cons.mp hz with rfl | hz
    · have := hsub fun z hz => h z (List.mem_cons_of_mem _ hz)
      simp [h1, h2]
      omega
    · have ih := filter_lt (fun z hz => h z (List.mem_cons_of_mem _ hz)) ⟨z, hz, h1, h2⟩
      have i2 := h a (by simp)
      cases hp : p a with
      | true => simp [hp, i2 hp]; exact ih
      | false =>
        cases hq : q a <;> simp [hp, hq] <;> omega
end DC
namespace DC
open PySem L2 DL
theorem intsOf_map {α : Type} {f : α → Int} : ∀ l : List α, intsOf (l.map fun x => D.a (.int (f x))) = some (l.map f)
  | [] => rfl
  | x :: l => by
    rw [List.map_cons, List.map_cons]
    unfold intsOf
    rw [intsOf_map l]
    rfl
def bnd3 (i : Nat) : Int := if i = 0 then 0 else ((3 ^ (i - 1) : Nat) : Int)
structure RowP (n : Nat) (T : Tb) (f : Fi) (x : Nat) (l : List Nat) (r : Nat → Int) : Prop where
  su : ∀ y, y < n → r y ≠ 0 → y ∈ l
  dg : l ≠ [] → r x = f x x
  eq : ∀ y ∈ l, Sm n (fun z => r z * f z y) = oneF x y
  bd : Sm n (fun z => ((r z).natAbs : Int)) ≤ bnd3 l.length
structure RowD (n : Nat) (T : Tb) (f : Fi) (x : Nat) (r : Nat → Int) : Prop where
  su : ∀ y, y < n → r y ≠ 0 → x = y ∨ T x y = true
  dg : r x = f x x
  eq : ∀ y, y < n → Sm n (fun z => r z * f z y) = oneF x y
  bd : ∀ y, y < n → (r y).natAbs < 1000000
theorem RowP.done {n x : Nat} {T : Tb} {f : Fi} {l : List Nat} {r : Nat → Int} (hn : n ≤ 10) (tT : Tr n T) (hx : x < n) (hs : Sup n T f) (hl : UpL n T x l) (hall : ∀ y, y < n → T x y = true → y ∈ l) (h : RowP n T f x l r) : RowD n T f x r where
  su := fun y hy h0 => (hl.up y (h.su y hy h0)).imp Eq.symm fun q => q.2
  dg := h.dg fun e => by have := hl.hd; rw [e] at this; cases this
  eq := fun y hy => by
    by_cases q : y ∈ l
    · exact h.eq y q
    · have hxl : x ∈ l := List.mem_of_getElem? hl.hd
      have hne : x ≠ y := fun e => q (e ▸ hxl)
      rw [Sm_zeros fun z hz => ?_]
      · simp [oneF, hne]
      · by_cases h1 : r z = 0
        · rw [h1]; simp
        · by_cases h2 : f z y = 0
          · rw [h2]; simp
          · exfalso
            apply q
            have hz1 := hl.up z (h.su z hz h1)
            have hz2 := hs z y hz hy h2
            rcases hz1 with e1 | e1
            · subst e1
              rcases hz2 with e2 | e2
              · exact absurd e2 hne
              · exact hall y hy e2
            · rcases hz2 with e2 | e2
              · subst e2; exact hall z hy e1.2
              · exact hall y hy (tT x z y hx hz hy e1.2 e2)
  bd := fun y hy => by
    have h1 := Sm_one (f := fun z => ((r z).natAbs : Int)) hy fun i _ => by omega
    have h2 := h.bd
    have hll : l.length ≤ n := by
      have hsub : ∀ w ∈ l, w ∈ List.range n := fun w hw => List.mem_range.mpr (by
        rcases hl.up w hw with e | e <;> omega)
      have := hl.nd.length_le_of_subset hsub
      simpa using this
    have h3 : bnd3 l.length ≤ 19683 := by
      unfold bnd3
      split
      · omega
      · have : 3 ^ (l.length - 1) ≤ 3 ^ 9 := Nat.pow_le_pow_right (by decide) (by omega)
        have e9 : (3 : Nat) ^ 9 = 19683 := by decide
        omega
    omega
theorem RowP.first {n x : Nat} {T : Tb} {f : Fi} {r r' : Nat → Int} (hx : x < n) (hd : f x x = 1 ∨ f x x = -1) (h : RowP n T f x [] r) (h1 : r' x = f x x) (h2 : ∀ z, z ≠ x → r' z = r z) : RowP n T f x [x] r' := by
  have r0 : ∀ z, z < n → z ≠ x → r' z = 0 := fun z hz hne => by
    rw [h2 z hne]
    false_or_by_contra
    rename_i q
    exact absurd (h.su z hz q) (by simp)
  refine ⟨fun y hy h0 => ?_, fun _ => h1, fun y hy => ?_, ?_⟩
  · by_cases e : y = x
    · simp [e]
    · exact absurd (r0 y hy e) h0
  · have : y = x := by simpa using hy
    subst this
    rw [Sm_pick hx fun z hz hne => by rw [r0 z hz hne]; simp, h1]
    simp [oneF]
    rcases hd with e | e <;> rw [e] <;> rfl
  · rw [Sm_pick hx fun z hz hne => by rw [r0 z hz hne]; simp, h1]
    rcases hd with e | e <;> rw [e] <;> simp [bnd3]
theorem RowP.next {n x y i : Nat} {T : Tb} {f : Fi} {l : List Nat} {r r' : Nat → Int} (tT : Tr n T) (hs : Sup n T f) (af : ∀ x y, x < n → y < n → (f x y).natAbs ≤ 2) (hx : x < n) (hl : UpL n T x l) (hi : l[i]? = some y) (hi0 : 0 < i) (hd : f y y = 1 ∨ f y y = -1) (h : RowP n T f x (l.take i) r)
    (h1 : r' y = -(Sm n fun z => if (!decide (z = y)) = true then r z * f z y else 0) * f y y) (h2 : ∀ z, z ≠ y → r' z = r z) : RowP n T f x (l.take (i + 1)) r' := by
  have hil := (List.getElem?_eq_some_iff.mp hi).1
  have ht : l.take (i + 1) = l.take i ++ [y] := by rw [List.take_succ, hi]; rfl
  have hnd : (l.take (i + 1)).Nodup := (List.take_sublist _ _).nodup hl.nd
  rw [ht, List.nodup_append] at hnd
  have hyt : y ∉ l.take i := fun q => hnd.2.2 y q y (by simp) rfl
  have hxt : x ∈ l.take i := by
    have h0 := hl.hd
    have : (l.take i)[0]? = some x := by rw [List.getElem?_take_of_lt hi0]; exact h0
    exact List.mem_of_getElem? this
  have hne : x ≠ y := fun e => hyt (e ▸ hxt)
  have hyn : y < n ∧ T x y = true := by
    rcases hl.up y (List.mem_of_getElem? hi) with e | e
    · exact absurd e.symm hne
    · exact e
  have ry : r y = 0 := by
    false_or_by_contra
    rename_i q
    exact hyt (h.su y hyn.1 q)
  have tot : (Sm n fun z => if (!decide (z = y)) = true then r z * f z y else 0) = Sm n fun z => r z * f z y := Sm_congr fun z _ => by
    by_cases e : z = y
    · subst e; simp [ry]
    · simp [e]
  rw [tot] at h1
  refine ⟨fun w hw h0 => ?_, fun _ => ?_, fun w hw => ?_, ?_⟩
  · rw [ht]
    by_cases e : w = y
    · simp [e]
    · rw [h2 w e] at h0
      simp [h.su w hw h0]
  · rw [h2 x hne]
    exact h.dg fun e => by rw [e] at hxt; cases hxt
  · rw [ht] at hw
    rw [Sm_set (f := fun z => r z * f z w) (c := y) hyn.1 fun z _ hz => by rw [h2 z hz]]
    rcases List.mem_append.mp hw with q | q
    · rw [h.eq w q]
      have f0 : f y w = 0 := by
        false_or_by_contra
        rename_i q0
        obtain ⟨j, hj⟩ := List.mem_iff_getElem?.mp q
        have hji : j < i := by
          have := (List.getElem?_eq_some_iff.mp hj).1
          simp at this
          omega
        rw [List.getElem?_take_of_lt hji] at hj
        have hwn : w < n := by
          rcases hl.up w (List.mem_of_getElem? hj) with e | e
          · subst e; exact hx
          · exact e.1
        rcases hs y w hyn.1 hwn q0 with e | e
        · subst e; exact hyt q
        · have := hl.bh j w hj y hyn.1 e hyn.2
          have : y ∈ l.take i := (List.take_subset_take_left l (Nat.le_of_lt hji)) this
          exact hyt this
      rw [f0]
      simp
    · have : w = y := by simpa using q
      subst this
      rw [h1, ry]
      have e1 : oneF x w = 0 := by simp [oneF, hne]
      rw [e1]
      generalize (Sm n fun z => r z * f z w) = t
      rcases hd with e | e <;> rw [e] <;> omega
  · have hb := h.bd
    rw [Sm_set (f := fun z => ((r z).natAbs : Int)) (c := y) hyn.1 fun z _ hz => by rw [h2 z hz], ry]
    have h3 : ((r' y).natAbs : Int) ≤ 2 * Sm n fun z => ((r z).natAbs : Int) := by
      have h4 : (Sm n fun z => r z * f z y).natAbs ≤ (Sm n fun z => ((r z * f z y).natAbs : Int)).toNat := Sm_abs
      have h5 : (Sm n fun z => ((r z * f z y).natAbs : Int)) ≤ Sm n fun z => 2 * ((r z).natAbs : Int) := Sm_le fun z hz => by
        have := af z y hz hyn.1
        rw [Int.natAbs_mul]
        have := Nat.mul_le_mul_left (r z).natAbs this
        omega
      rw [Sm_mulL] at h5
      have h6 : 0 ≤ Sm n fun z => ((r z * f z y).natAbs : Int) := Sm_nonneg fun _ _ => by omega
      have h7 : (r' y).natAbs = (Sm n fun z => r z * f z y).natAbs := by
        rw [h1]
        rcases hd with e | e <;> rw [e] <;> omega
      omega
    have h8 : bnd3 (l.take (i + 1)).length = 3 * bnd3 (l.take i).length := by
      have e1 : (l.take (i + 1)).length = i + 1 := by simp; omega
      have e2 : (l.take i).length = i := by simp; omega
      rw [e1, e2]
      unfold bnd3
      rw [if_neg (by omega), if_neg (by omega)]
      have : i = (i - 1) + 1 := by omega
      have e3 : 3 ^ (i + 1 - 1) = 3 * 3 ^ (i - 1) := by
        rw [Nat.add_sub_cancel]
        conv => lhs; rw [this, Nat.pow_succ]
        omega
      rw [e3]
      omega
    rw [h8]
    omega
end DC
namespace DC
open PySem L2 DL
def cc (n : Nat) (T : Tb) : Nat → Nat → Nat → Nat → Int
  | 0, _, _, _ => 0
  | m + 1, x, y, k => if x = y then (if k = 1 then 1 else 0) else if k = 0 then 0 else Sm n fun z => if T x z = true ∧ (z = y ∨ T z y = true) then cc n T m z y (k - 1) else 0
end DC
namespace DC
open PySem L2 DL
end DC
namespace DC
open PySem L2 DL
theorem foldl_max : ∀ (l : List Int) (a : Int), a ≤ l.foldl max a ∧ (∀ y ∈ l, y ≤ l.foldl max a) ∧ (l.foldl max a = a ∨ l.foldl max a ∈ l)
  | [], a => ⟨Int.le_refl _, fun y hy => (by cases hy), .inl rfl⟩
  | x :: l, a => by
    rw [List.foldl_cons]
    obtain ⟨h1, h2, h3⟩ := foldl_max l (max a x)
    refine ⟨by omega, fun y hy => ?_, ?_⟩
    · rcases List.mem_cons.mp hy with rfl | hy
      · omega
      · exact h2 y hy
    · rcases h3 with e | e
      · rw [e]
        by_cases q : a ≤ x
        · exact .inr (by rw [Int.max_eq_right q]; simp)
        · exact .inl (Int.max_eq_left (by omega))
      · exact .inr (by simp [e])
theorem max1_eq {o : Bool} {a : Int} {l : List Int} {P : D → Prop} : SO (gMax1 (.n .lst o ((a :: l).map D.int))) P = P (.a (.int (l.foldl max a))) := by
  unfold gMax1
  dsimp only
  rw [intsOf_map (f := fun x : Int => x)]
  dsimp only
  rw [List.map_id', List.max?_cons']
  rfl
theorem w_lcNF {E : Exn → DL.Env → Prop} {P : D → DL.Env → Prop} {ρ : DL.Env} {v : Nat} {l : List Nat} {src : DL.Env → Out (List D)} {t : DL.Env → Out Bool} {f : DL.Env → Out D} (tb : Nat → Bool) (fv : Nat → D) (hv : ∀ d, ρ[v]? = some (some d) → isF d = true) (hl : v < ρ.length) (hsrc : src ρ = .ok (l.map natD) ρ) (hc : l.length ≤ 1000000)
    (ht : ∀ x ∈ l, t (ρ.set v (some (natD x))) = .ok (tb x) (ρ.set v (some (natD x)))) (hf : ∀ x ∈ l, tb x = true → f (ρ.set v (some (natD x))) = .ok (fv x) (ρ.set v (some (natD x)))) (k : P (.lst true ((l.filter tb).map fv)) ρ) : WO E P (dLc [v] src (tg1 v) t f ρ) := by
  rw [w_lcF (fun d => tb (natOf d)) (fun d => fv (natOf d)) hv hl hsrc (by rw [List.length_map]; exact hc)]
  · rw [List.filter_map, List.map_map]
    exact k
  · intro d hd
    obtain ⟨x, hx, rfl⟩ := List.mem_map.mp hd
    exact ht x hx
  · intro d hd h
    obtain ⟨x, hx, rfl⟩ := List.mem_map.mp hd
    exact hf x hx h
theorem src_lst {ρ : DL.Env} {k : Kd} (hk : k = .lst ∨ k = .tup) {f : DL.Env → Out D} {l : List Nat} (h : f ρ = .ok (.n k false (l.map natD)) ρ) (hn : l.length ≤ 1000000) : dIter f ρ = .ok (l.map natD) ρ := by
  apply out_eq
  have hfl : isFL (l.map natD) = true := isFL_map fun _ => rfl
  rw [w_Iter, h]
  rcases hk with rfl | rfl <;> simp [hfl] <;> omega
theorem src_rngN {ρ : DL.Env} {f : DL.Env → Out D} {n : Nat} (h : f ρ = .ok (.a (.int (n : Int))) ρ) (hn : n ≤ 1000) : dRng1 f ρ = .ok ((List.range n).map natD) ρ := src_rng h hn
structure RankS (n : Nat) (T : Tb) (r : Nat → Nat) : Prop where
  lt : ∀ x z, x < n → z < n → T z x = true → r z < r x
  ex : ∀ x, x < n → r x = 0 ∨ ∃ z, z < n ∧ T z x = true ∧ r z + 1 = r x
structure RankD (n : Nat) (T : Tb) (dom : List Nat) (r : Nat → Nat) : Prop where
  nd : dom.Nodup
  bd : ∀ x ∈ dom, x < n
  lt : ∀ x ∈ dom, ∀ z, z < n → T z x = true → z ∈ dom ∧ r z < r x
  ex : ∀ x ∈ dom, r x = 0 ∨ ∃ z, z < n ∧ T z x = true ∧ r z + 1 = r x
theorem RankD.len {n : Nat} {T : Tb} {dom : List Nat} {r : Nat → Nat} (h : RankD n T dom r) : dom.length ≤ n := by
  have := h.nd.length_le_of_subset (l₂ := List.range n) fun x hx => List.mem_range.mpr (h.bd x hx)
  simpa using this
def downs (n : Nat) (T : Tb) (x : Nat) : Nat := ((List.range n).filter fun z => T z x).length
theorem downs_lt {n x y : Nat} {T : Tb} (tT : Tr n T) (iT : Irr n T) (hx : x < n) (hy : y < n) (h : T x y = true) : downs n T x < downs n T y :=
  filter_lt (p := fun z => T z x) (q := fun z => T z y) (fun z hz h2 => tT z x y (List.mem_range.mp hz) hx hy h2 h) ⟨x, List.mem_range.mpr hx, h, iT x hx⟩
theorem RankS.le {n : Nat} {T : Tb} {r : Nat → Nat} (tT : Tr n T) (iT : Irr n T) (h : RankS n T r) : ∀ (k x : Nat), x < n → downs n T x ≤ k → r x ≤ downs n T x := by
  intro k
  induction k with
  | zero =>
    intro x hx hk
    rcases h.ex x hx with e | ⟨z, hz, hT, e⟩
    · omega
    · have := downs_lt tT iT hz hx hT
      omega
  | succ k ih =>
    intro x hx hk
    rcases h.ex x hx with e | ⟨z, hz, hT, e⟩
    · omega
    · have h1 := downs_lt tT iT hz hx hT
      have h2 := ih z hz (by omega)
      omega
def height (n : Nat) (r : Nat → Nat) : Nat := (((List.range n).map fun x => (r x : Int)).foldl max (-1) + 1).toNat
theorem height_spec (n : Nat) (r : Nat → Nat) : (((List.range n).map fun x => (r x : Int)).foldl max (-1) + 1) = (height n r : Int) ∧ (∀ x, x < n → r x < height n r) ∧ (height n r = 0 ∨ ∃ x, x < n ∧ r x + 1 = height n r) := by
  obtain ⟨h1, h2, h3⟩ := foldl_max ((List.range n).map fun x => (r x : Int)) (-1)
  unfold height
  generalize ((List.range n).map fun x => (r x : Int)).foldl max (-1) = m at *
  refine ⟨by omega, fun x hx => ?_, ?_⟩
  · have := h2 (r x : Int) (List.mem_map.mpr ⟨x, List.mem_range.mpr hx, rfl⟩)
    omega
  · rcases h3 with e | e
    · left; omega
    · obtain ⟨x, hx, e⟩ := List.mem_map.mp e
      right
      exact ⟨x, List.mem_range.mp hx, by omega⟩
abbrev rkD (n : Nat) (r : Nat → Nat) : D := .n .tup false (vec n fun x => natD (r x))
section
variable {n : Nat} {T : Tb} {r : Nat → Nat}
theorem length_eq (hn : n ≤ 60) (hr : F_ranks [ordT n T] = .rt (rkD n r) none) : F_length [ordT n T] = .rt (.a (.int (height n r : Int))) none := by
  apply wf_eq
  unfold F_length
  rw [wf_fn]
  unfold B_length
  have hfl : isFL (vec n fun x => natD (r x)) = true := isFL_vec fun _ _ => rfl
  have gl : ∀ P : D → Prop, SO (gList (rkD n r)) P = P (.lst true (vec n fun x => natD (r x))) := fun P => by
    unfold gList rkD
    rfl
  have cat : ∀ P : D → Prop, SO (gAdd (.n .lst true [.a (.int (-1))]) (.lst true (vec n fun x => natD (r x)))) P = P (.lst true (((-1 : Int) :: (List.range n).map fun x => (r x : Int)).map D.int)) := fun P => by
    rw [catL rfl hfl (by simp; omega)]
    have : ([D.a (.int (-1))] ++ vec n fun x => natD (r x)) = ((-1 : Int) :: (List.range n).map fun x => (r x : Int)).map D.int := by
      unfold vec
      simp [natD]
    rw [this]
  have mx : ∀ (l : List Int) (P : D → Prop), SO (gMax1 (.lst true ((( -1 : Int) :: l).map D.int))) P = P (.a (.int (l.foldl max (-1)))) := fun l P => max1_eq
  rw [p_Bind, w_Op2, w_U, w_Op2]
  simp only [w_Lst, w_ACons, w_U, w_C, o_neg, w_ANil, wo_ok, agL_cons, agL_nil, Option.map_some, so_some]
  simp [isF_ordT, frz_ordT, hr, gl]
  rw [cat, mx]
  simp [(height_spec n r).1, ioOf]
end
end DC
namespace DC
open PySem L2 DL
structure Dsc (n : Nat) (T : Tb) (r : Nat → Nat) (h : Nat) (c : List Nat) : Prop where
  bd : ∀ x ∈ c, x < n
  rk : ∀ (s x : Nat), c[s]? = some x → r x + 1 + s = h
  ch : c.Pairwise fun a b => T b a = true
end DC
namespace DC
open PySem L2 DL
def ls {α : Type} (l : List α) (g : α → Int) : Int := (l.map g).sum
section
variable {n : Nat} {T : Tb} (tT : Tr n T) (iT : Irr n T)
include tT iT
end
end DC
namespace DC
open PySem L2 DL
theorem chain_eq3 {ρ : DL.Env} {fa fb fc : DL.Env → Out D} {i j k : Int} (ha : fa ρ = .ok (.a (.int i)) ρ) (hb : fb ρ = .ok (.a (.int j)) ρ) (hc : fc ρ = .ok (.a (.int k)) ρ) : dChain gLe gLt fa fb fc ρ = .ok (.a (.bl (decide (i ≤ j) && decide (j < k)))) ρ := by
  unfold dChain
  rw [ha]
  dsimp only
  rw [hb]
  dsimp only
  have h1 : gLe (.a (.int i)) (.a (.int j)) = some (.a (.bl (decide (i ≤ j)))) := rfl
  have h2 : gLt (.a (.int j)) (.a (.int k)) = some (.a (.bl (decide (j < k)))) := rfl
  rw [h1]
  cases decide (i ≤ j) with
  | false => rfl
  | true =>
    dsimp only
    rw [hc]
    dsimp only
    rw [h2]
    rfl
theorem isset_int {b : Int} {n : Nat} (hn : n ≤ 1000) : F_is_set [.a (.int b), .a (.int (n : Int))] = .rt (.a (.bl (decide (0 ≤ b) && decide (b < ((2 ^ n : Nat) : Int))))) none := by
  apply wf_eq
  unfold F_is_set
  rw [wf_fn]
  unfold B_is_set
  have hv : ∀ ρ : DL.Env, ρ = [some (.a (.int b)), some (.a (.int (n : Int)))] → dChain gLe gLt (dC (.int 0)) (dVar 0) (dOp2 gShl (dC (.int 1)) (dVar 1)) ρ = .ok (.a (.bl (decide (0 ≤ b) && decide (b < ((2 ^ n : Nat) : Int))))) ρ := by
    rintro _ rfl
    exact chain_eq3 rfl (var_eq rfl rfl) (out_eq (by simp [-Int.natCast_pow, o_shl1 (show n ≤ 1000000 by omega)]))
  generalize (decide (0 ≤ b) && decide (b < ((2 ^ n : Nat) : Int))) = q at *
  simp [isint_eq, hv, ioOf]
end DC
namespace DC
open PySem L2 DL
theorem isset_no {d : D} {n : Nat} (hf : isF d = true) (h : F_is_integer [d] = .rt (.a (.bl false)) none) : F_is_set [d, .a (.int (n : Int))] = .rt (.a (.bl false)) none := by
  apply wf_eq
  unfold F_is_set
  rw [wf_fn]
  unfold B_is_set
  simp [hf, frz_isF _ hf, h, ioOf]
end DC
namespace DC
open PySem L2 DL
def fl (n : Nat) (T : Tb) (F : Nat) : List Nat := (List.range n).filter fun x => !F.testBit x && (List.range n).all fun z => !T z x || F.testBit z
theorem mem_fl {n F x : Nat} {T : Tb} : x ∈ fl n T F ↔ x < n ∧ F.testBit x = false ∧ ∀ z, z < n → T z x = true → F.testBit z = true := by
  unfold fl
  rw [List.mem_filter, List.mem_range, Bool.and_eq_true, List.all_eq_true]
  constructor
  · rintro ⟨h1, h2, h3⟩
    refine ⟨h1, by simpa using h2, fun z hz h => ?_⟩
    have := h3 z (List.mem_range.mpr hz)
    simpa [h] using this
  · rintro ⟨h1, h2, h3⟩
    refine ⟨h1, by simp [h2], fun z hz => ?_⟩
    cases h : T z x with
    | false => rfl
    | true => rw [h3 z (List.mem_range.mp hz) h]; rfl
theorem fl_asc {n F : Nat} {T : Tb} : (fl n T F).Pairwise (· < ·) := List.pairwise_lt_range.filter _
def pt (F x : Nat) : Nat := F ||| 2 ^ x
theorem pt_bit {F x z : Nat} : (pt F x).testBit z = (F.testBit z || decide (x = z)) := by
  unfold pt
  rw [Nat.testBit_or, Nat.testBit_two_pow]
theorem pt_lt {n F x : Nat} (hF : F < 2 ^ n) (hx : x < n) : pt F x < 2 ^ n := Nat.or_lt_two_pow hF (Nat.pow_lt_pow_right (by decide) hx)
def bits (n F : Nat) : Nat := ((List.range n).filter F.testBit).length
theorem bits_pt {n F x : Nat} (hx : x < n) (h : F.testBit x = false) : bits n (pt F x) = bits n F + 1 := by
  unfold bits
  have hp : ((List.range n).filter (pt F x).testBit).Perm (x :: (List.range n).filter F.testBit) := by
    refine (List.perm_ext_iff_of_nodup (List.nodup_range.filter _) (List.nodup_cons.mpr ⟨fun q => ?_, List.nodup_range.filter _⟩)).mpr fun z => ?_
    · have := (List.mem_filter.mp q).2
      rw [h] at this; cases this
    · rw [List.mem_filter, List.mem_cons, List.mem_filter, List.mem_range, pt_bit]
      by_cases e : x = z
      · subst e; simp [hx]
      · have e' : ¬ z = x := fun q => e q.symm
        simp [e, e']
  rw [hp.length_eq, List.length_cons]
theorem bits_zero {n : Nat} : bits n 0 = 0 := by
  unfold bits
  rw [List.filter_eq_nil_iff.mpr fun x _ => by simp]
  rfl
def Wy (n : Nat) (T : Tb) : Nat → Nat → Int
  | 0, _ => 1
  | k + 1, F => ls (fl n T F) fun x => Wy n T k (pt F x)
def cmp (n : Nat) (T : Tb) : Nat → Nat → List (List Nat)
  | 0, _ => [[]]
  | k + 1, F => (fl n T F).flatMap fun x => (cmp n T k (pt F x)).map fun r => x :: r
def Wv (n : Nat) (T : Tb) (F : Nat) : Int := Wy n T (n - bits n F) F
inductive Lv (n : Nat) (T : Tb) : Nat → Nat → Prop
  | zero : Lv n T 0 0
  | step {t F x : Nat} : Lv n T t F → x ∈ fl n T F → Lv n T (t + 1) (pt F x)
theorem Lv.bits {n t F : Nat} {T : Tb} (h : Lv n T t F) : bits n F = t ∧ F < 2 ^ n := by
  induction h with
  | zero => exact ⟨bits_zero, Nat.two_pow_pos n⟩
  | step _ hx ih =>
    obtain ⟨h1, h2, _⟩ := mem_fl.mp hx
    exact ⟨by rw [bits_pt h1 h2, ih.1], pt_lt ih.2 h1⟩
theorem Lv.end_ {n F : Nat} {T : Tb} (h : Lv n T n F) : F = 2 ^ n - 1 := by
  obtain ⟨h1, h2⟩ := h.bits
  apply Nat.eq_of_testBit_eq
  intro i
  rw [Nat.testBit_two_pow_sub_one]
  by_cases hi : i < n
  · rw [decide_eq_true hi]
    false_or_by_contra
    rename_i hf
    have hs : ((List.range n).filter F.testBit).length < ((List.range n).filter fun _ => true).length := filter_lt (fun _ _ _ => rfl) ⟨i, List.mem_range.mpr hi, rfl, by simpa using hf⟩
    have e : ((List.range n).filter F.testBit).length = n := h1
    have e2 : ((List.range n).filter fun _ => true).length = n := by
      rw [List.filter_eq_self.mpr fun _ _ => rfl, List.length_range]
    omega
  · rw [decide_eq_false hi]
    exact Nat.testBit_lt_two_pow (Nat.lt_of_lt_of_le h2 (Nat.pow_le_pow_right (by decide) (by omega)))
end DC
namespace DC
open PySem L2 DL
end DC
namespace DC
open PySem L2 DL
def stp (n : Nat) (T : Tb) (F : Nat) : List Nat := (fl n T F).map (pt F)
theorem range_map_len2 {n : Nat} : ((List.range n).map natD).length = n := by simp
theorem wo_of {E : Exn → DL.Env → Prop} {P : D → DL.Env → Prop} {o : Out D} {x : D} {ρ : DL.Env} (h : o = .ok x ρ) (k : P x ρ) : WO E P o := by
  rw [h, wo_ok]
  exact k
end DC
namespace DC
open PySem L2 DL
def rwL (n : Nat) (T : Tb) : Nat → List (List Nat)
  | 0 => [[]]
  | t + 1 => (rwL n T t).flatMap fun r => (fl n T (setm r)).map fun x => r ++ [x]
def rwP (n : Nat) : Nat → List (List Nat)
  | 0 => [[]]
  | t + 1 => (rwP n t).flatMap fun r => ((List.range n).filter fun x => decide (x ∉ r)).map fun x => r ++ [x]
theorem setm_snoc {r : List Nat} {x : Nat} : setm (r ++ [x]) = pt (setm r) x := by
  unfold setm
  rw [List.foldl_append]
  rfl
theorem rwL_cmp {n : Nat} {T : Tb} : ∀ (k t : Nat), ((rwL n T t).flatMap fun r => (cmp n T k (setm r)).map fun s => r ++ s) = rwL n T (t + k)
  | 0, t => by
    have : (fun r : List Nat => (cmp n T 0 (setm r)).map fun s => r ++ s) = fun r => [r] := by
      funext r
      show [r ++ []] = [r]
      rw [List.append_nil]
    rw [this]
    simp
  | k + 1, t => by
    have h := rwL_cmp (n := n) (T := T) k (t + 1)
    rw [show t + 1 + k = t + (k + 1) by omega] at h
    rw [← h]
    show _ = ((rwL n T t).flatMap fun r => (fl n T (setm r)).map fun x => r ++ [x]).flatMap _
    rw [List.flatMap_assoc]
    congr 1
    funext r
    show ((fl n T (setm r)).flatMap fun x => (cmp n T k (pt (setm r) x)).map fun s => x :: s).map (fun s => r ++ s) = _
    rw [List.map_flatMap, List.flatMap_map]
    congr 1
    funext x
    rw [List.map_map, setm_snoc]
    refine List.map_congr_left fun s _ => ?_
    simp
theorem rwL_all {n : Nat} {T : Tb} : rwL n T n = cmp n T n 0 := by
  have h := rwL_cmp (n := n) (T := T) n 0
  rw [Nat.zero_add] at h
  rw [← h]
  show ([[]] : List (List Nat)).flatMap _ = _
  rw [List.flatMap_cons, List.flatMap_nil, List.append_nil]
  show (cmp n T n 0).map (fun s => [] ++ s) = _
  simp
def good (n : Nat) (T : Tb) (r : List Nat) : Prop := r.Pairwise (fun a b => T b a = false) ∧ ∀ y ∈ r, ∀ z, z < n → T z y = true → z ∈ r
theorem good_snoc {n x : Nat} {T : Tb} {r : List Nat} (iT : Irr n T) (hx : x < n) (hr : ∀ y ∈ r, y < n) (hxr : x ∉ r) : good n T (r ++ [x]) ↔ good n T r ∧ ∀ z, z < n → T z x = true → z ∈ r := by
  unfold good
  rw [List.pairwise_append]
  constructor
  · rintro ⟨⟨h1, _, h2⟩, h3⟩
    have h4 : ∀ a ∈ r, T x a = false := fun a ha => h2 a ha x (by simp)
    refine ⟨⟨h1, fun y hy z hz hT => ?_⟩, fun z hz hT => ?_⟩
    · have := h3 y (by simp [hy]) z hz hT
      rcases List.mem_append.mp this with h | h
      · exact h
      · have : z = x := by simpa using h
        subst this
        rw [h4 y hy] at hT; cases hT
    · have := h3 x (by simp) z hz hT
      rcases List.mem_append.mp this with h | h
      · exact h
      · have : z = x := by simpa using h
        subst this
        rw [iT z hz] at hT; cases hT
  · rintro ⟨⟨h1, h3⟩, h5⟩
    refine ⟨⟨h1, List.pairwise_singleton _ _, fun a ha b hb => ?_⟩, fun y hy z hz hT => ?_⟩
    · have : b = x := by simpa using hb
      subst this
      cases h : T b a with
      | false => rfl
      | true => exact absurd (h3 a ha b hx h) hxr
    · rcases List.mem_append.mp hy with h | h
      · exact List.mem_append_left _ (h3 y h z hz hT)
      · have : y = x := by simpa using h
        subst this
        exact List.mem_append_left _ (h5 z hz hT)
theorem rwP_ok {n : Nat} : ∀ {t : Nat} {r : List Nat}, r ∈ rwP n t → r.length = t ∧ r.Nodup ∧ ∀ y ∈ r, y < n
  | 0, r, h => by
    have : r = [] := by simpa [rwP] using h
    subst this
    exact ⟨rfl, .nil, fun y hy => by cases hy⟩
  | t + 1, r, h => by
    obtain ⟨r', h1, h2⟩ := List.mem_flatMap.mp h
    obtain ⟨x, hx, rfl⟩ := List.mem_map.mp h2
    obtain ⟨hx1, hx2⟩ := List.mem_filter.mp hx
    obtain ⟨a, b, c⟩ := rwP_ok h1
    have hx3 : x ∉ r' := by simpa using hx2
    refine ⟨by rw [List.length_append, a]; rfl, List.nodup_append.mpr ⟨b, by simp, fun u hu v hv e => ?_⟩, fun y hy => ?_⟩
    · have : v = x := by simpa using hv
      subst this; subst e; exact hx3 hu
    · rcases List.mem_append.mp hy with h | h
      · exact c y h
      · have : y = x := by simpa using h
        subst this; exact List.mem_range.mp hx1
open Classical in
theorem rwP_good {n : Nat} {T : Tb} (iT : Irr n T) : ∀ t, (rwP n t).filter (fun r => decide (good n T r)) = rwL n T t
  | 0 => by
    have : good n T [] := ⟨.nil, fun y hy => by cases hy⟩
    simp [rwP, rwL, this]
  | t + 1 => by
    show ((rwP n t).flatMap fun r => ((List.range n).filter fun x => decide (x ∉ r)).map fun x => r ++ [x]).filter _ = (rwL n T t).flatMap _
    rw [← rwP_good iT t, List.filter_flatMap]
    have key : ∀ l : List (List Nat), (∀ r ∈ l, r ∈ rwP n t) → (l.flatMap fun r => (((List.range n).filter fun x => decide (x ∉ r)).map fun x => r ++ [x]).filter fun r => decide (good n T r)) = (l.filter fun r => decide (good n T r)).flatMap fun r => (fl n T (setm r)).map fun x => r ++ [x] := by
      intro l
      induction l with
      | nil => intro _; rfl
      | cons r l ih =>
        intro hl
        rw [List.flatMap_cons, ih fun r hr => hl r (List.mem_cons_of_mem _ hr)]
        obtain ⟨_, hnd, hlt⟩ := rwP_ok (hl r (by simp))
        have e : ((((List.range n).filter fun x => decide (x ∉ r)).map fun x => r ++ [x]).filter fun r => decide (good n T r)) = if good n T r then (fl n T (setm r)).map (fun x => r ++ [x]) else [] := by
          rw [List.filter_map, List.filter_filter]
          by_cases hg : good n T r
          · rw [if_pos hg]
            congr 1
            unfold fl
            refine List.filter_congr fun x hx => ?_
            have hxn := List.mem_range.mp hx
            rw [Bool.eq_iff_iff]
            simp only [Function.comp, Bool.and_eq_true, decide_eq_true_eq, setm_bit, Bool.not_eq_true', decide_eq_false_iff_not, List.all_eq_true]
            constructor
            · rintro ⟨h1, h2⟩
              refine ⟨h2, fun z hz => ?_⟩
              have := ((good_snoc iT hxn hlt h2).mp h1).2 z (List.mem_range.mp hz)
              cases hT : T z x with
              | false => rfl
              | true => simp [this hT]
            · rintro ⟨h2, h3⟩
              refine ⟨(good_snoc iT hxn hlt h2).mpr ⟨hg, fun z hz hT => ?_⟩, h2⟩
              have := h3 z (List.mem_range.mpr hz)
              simpa [hT] using this
          · rw [if_neg hg]
            rw [List.filter_eq_nil_iff.mpr, List.map_nil]
            intro x hx
            have hxn := List.mem_range.mp hx
            simp only [Function.comp, Bool.and_eq_true, decide_eq_true_eq]
            rintro ⟨h1, h2⟩
            exact hg ((good_snoc iT hxn hlt h2).mp h1).1
        rw [e, List.filter_cons]
        by_cases hg : good n T r
        · simp [hg]
        · simp [hg]
    exact key _ fun r hr => hr
theorem perm_full {n : Nat} {r : List Nat} (h : r.length = n) (hnd : r.Nodup) (hlt : ∀ y ∈ r, y < n) {z : Nat} (hz : z < n) : z ∈ r := by
  have hsub : r.Subset (List.range n) := fun y hy => List.mem_range.mpr (hlt y hy)
  false_or_by_contra
  rename_i hn
  have : (z :: r).length ≤ (List.range n).length := (List.nodup_cons.mpr ⟨hn, hnd⟩).length_le_of_subset fun y hy => by
    rcases List.mem_cons.mp hy with rfl | hy
    · exact List.mem_range.mpr hz
    · exact hsub hy
  simp at this
  omega
def fitB (T : Tb) (r : List Nat) : Bool := decide (r.Pairwise fun a b => T b a = false)
theorem rwP_fit {n : Nat} {T : Tb} (iT : Irr n T) : (rwP n n).filter (fitB T) = cmp n T n 0 := by
  classical
  rw [← rwL_all, ← rwP_good iT n]
  refine List.filter_congr fun r hr => ?_
  obtain ⟨h1, h2, h3⟩ := rwP_ok hr
  unfold fitB
  refine decide_eq_decide.mpr ⟨fun h => ⟨h, fun y hy z hz _ => perm_full h1 h2 h3 hz⟩, fun h => h.1⟩
def rk (n : Nat) (T : Tb) : Nat → List Nat → Int
  | _, [] => 0
  | F, y :: s => ls ((fl n T F).filter fun x => decide (x < y)) (fun x => Wv n T (pt F x)) + rk n T (pt F y) s
end DC
namespace DC
open PySem L2 DL
theorem cmp_cons {n m F y : Nat} {T : Tb} {s : List Nat} : (y :: s) ∈ cmp n T (m + 1) F ↔ y ∈ fl n T F ∧ s ∈ cmp n T m (pt F y) := by
  show (y :: s) ∈ (fl n T F).flatMap _ ↔ _
  rw [List.mem_flatMap]
  constructor
  · rintro ⟨x, hx, h⟩
    obtain ⟨s', hs, e⟩ := List.mem_map.mp h
    injection e with e1 e2
    subst e1 e2
    exact ⟨hx, hs⟩
  · rintro ⟨h1, h2⟩
    exact ⟨y, h1, List.mem_map.mpr ⟨s, h2, rfl⟩⟩
end DC
namespace DC
open PySem L2 DL
structure Pm (n : Nat) (r : List Nat) : Prop where
  len : r.length = n
  nd : r.Nodup
  lt : ∀ y ∈ r, y < n
theorem Pm.perm {n : Nat} {r : List Nat} (h : Pm n r) : r.Perm (List.range n) := (List.perm_ext_iff_of_nodup h.nd List.nodup_range).mpr fun z => ⟨fun hz => List.mem_range.mpr (h.lt z hz), fun hz => perm_full h.len h.nd h.lt (List.mem_range.mp hz)⟩
end DC
namespace DC
open PySem L2 DL
end DC
namespace DC
open PySem L2 DL
end DC
namespace DC
open PySem L2 DL
end DC
namespace DC
open PySem L2 DL
end DC
namespace DC
open PySem L2 DL
end DC
namespace DC
open PySem L2 DL
end DC
namespace DC
open PySem L2 DL
end DC
set_option pp.maxSteps 1500
namespace DC
open PySem L2 DL
def bef (r : List Nat) (x y : Nat) : Bool := decide (r.idxOf x < r.idxOf y)
theorem Pm.idx {n x : Nat} {r : List Nat} (h : Pm n r) (hx : x < n) : r.idxOf x < n := by
  have := List.idxOf_lt_length_of_mem (perm_full h.len h.nd h.lt hx)
  rw [h.len] at this
  exact this
theorem Pm.at_ {n x : Nat} {r : List Nat} (h : Pm n r) (hx : x < n) : r[r.idxOf x]? = some x := by
  have hm := perm_full h.len h.nd h.lt hx
  rw [List.getElem?_eq_getElem (List.idxOf_lt_length_of_mem hm), List.getElem_idxOf]
theorem Pm.inj {n x y : Nat} {r : List Nat} (h : Pm n r) (hx : x < n) (hy : y < n) (e : r.idxOf x = r.idxOf y) : x = y := by
  have h1 := h.at_ hx
  rw [e, h.at_ hy] at h1
  exact (Option.some.inj h1).symm
theorem fit_idx {n : Nat} {T : Tb} {r : List Nat} (iT : Irr n T) (h : Pm n r) : fitB T r = true ↔ ∀ u v, u < n → v < n → T u v = true → bef r u v = true := by
  unfold fitB bef
  rw [decide_eq_true_eq, List.pairwise_iff_getElem]
  constructor
  · intro q u v hu hv e
    rw [decide_eq_true_eq]
    false_or_by_contra
    rename_i hn
    rcases Nat.lt_or_ge (r.idxOf v) (r.idxOf u) with hl | hl
    · have h1 := h.idx hu
      have h2 := h.idx hv
      have := q (r.idxOf v) (r.idxOf u) (by rw [h.len]; exact h2) (by rw [h.len]; exact h1) hl
      rw [List.getElem_idxOf, List.getElem_idxOf, e] at this
      cases this
    · have e2 := h.inj hu hv (by omega)
      subst e2
      rw [iT u hu] at e
      cases e
  · intro q i j hi hj hij
    cases e : T r[j] r[i] with
    | false => rfl
    | true =>
      have := q r[j] r[i] (h.lt _ (List.getElem_mem _)) (h.lt _ (List.getElem_mem _)) e
      rw [decide_eq_true_eq, h.nd.idxOf_getElem j hj, h.nd.idxOf_getElem i hi] at this
      omega
theorem rwP_pm {n : Nat} {r : List Nat} (h : r ∈ rwP n n) : Pm n r := by
  obtain ⟨h1, h2, h3⟩ := rwP_ok h
  exact ⟨h1, h2, h3⟩
theorem cmp_pm {n : Nat} {T : Tb} {r : List Nat} (iT : Irr n T) (h : r ∈ cmp n T n 0) : Pm n r ∧ fitB T r = true := by
  rw [← rwP_fit iT] at h
  obtain ⟨h1, h2⟩ := List.mem_filter.mp h
  exact ⟨rwP_pm h1, h2⟩
def add1 (T : Tb) (x y : Nat) : Tb := fun u v => T u v || ((decide (u = x) || T u x) && (decide (v = y) || T y v))
theorem add1_iff {T : Tb} {x y u v : Nat} : add1 T x y u v = true ↔ T u v = true ∨ (u = x ∨ T u x = true) ∧ (v = y ∨ T y v = true) := by
  unfold add1
  simp
theorem add1_tr {n x y : Nat} {T : Tb} (tT : Tr n T) (hx : x < n) (hy : y < n) (hne : x ≠ y) (hyx : T y x = false) : Tr n (add1 T x y) := by
  intro a b c ha hb hc h1 h2
  rw [add1_iff] at h1 h2 ⊢
  have no : ∀ {b}, b < n → (b = y ∨ T y b = true) → (b = x ∨ T b x = true) → False := by
    intro b hb p q
    rcases p with rfl | p <;> rcases q with rfl | q
    · exact hne rfl
    · rw [hyx] at q; cases q
    · rw [hyx] at p; cases p
    · have := tT y b x hy hb hx p q
      rw [hyx] at this; cases this
  rcases h1 with h1 | ⟨p1, q1⟩
  · rcases h2 with h2 | ⟨p2, q2⟩
    · exact .inl (tT a b c ha hb hc h1 h2)
    · refine .inr ⟨.inr ?_, q2⟩
      rcases p2 with rfl | p2
      · exact h1
      · exact tT a b x ha hb hx h1 p2
  · rcases h2 with h2 | ⟨p2, q2⟩
    · refine .inr ⟨p1, .inr ?_⟩
      rcases q1 with rfl | q1
      · exact h2
      · exact tT y b c hy hb hc q1 h2
    · exact (no hb q1 p2).elim
theorem add1_irr {n x y : Nat} {T : Tb} (tT : Tr n T) (iT : Irr n T) (hx : x < n) (hy : y < n) (hne : x ≠ y) (hyx : T y x = false) : Irr n (add1 T x y) := by
  intro a ha
  cases e : add1 T x y a a with
  | false => rfl
  | true =>
    rw [add1_iff] at e
    rcases e with e | ⟨p, q⟩
    · rw [iT a ha] at e; cases e
    · rcases p with rfl | p <;> rcases q with rfl | q
      · exact absurd rfl hne
      · rw [hyx] at q; cases q
      · rw [hyx] at p; cases p
      · have := tT y a x hy ha hx q p
        rw [hyx] at this; cases this
theorem add1_fit {n x y : Nat} {T : Tb} {r : List Nat} (tT : Tr n T) (iT : Irr n T) (hx : x < n) (hy : y < n) (hne : x ≠ y) (hyx : T y x = false) (h : Pm n r) : fitB (add1 T x y) r = (fitB T r && bef r x y) := by
  rw [Bool.eq_iff_iff, Bool.and_eq_true, fit_idx (add1_irr tT iT hx hy hne hyx) h, fit_idx iT h]
  constructor
  · intro q
    exact ⟨fun u v hu hv e => q u v hu hv (add1_iff.mpr (.inl e)), q x y hx hy (add1_iff.mpr (.inr ⟨.inl rfl, .inl rfl⟩))⟩
  · rintro ⟨q1, q2⟩ u v hu hv e
    have le1 : (u = x ∨ T u x = true) → r.idxOf u ≤ r.idxOf x := fun p => by
      rcases p with rfl | p
      · exact Nat.le_refl _
      · exact Nat.le_of_lt (by simpa [bef] using q1 u x hu hx p)
    have le2 : (v = y ∨ T y v = true) → r.idxOf y ≤ r.idxOf v := fun p => by
      rcases p with rfl | p
      · exact Nat.le_refl _
      · exact Nat.le_of_lt (by simpa [bef] using q1 y v hy hv p)
    rcases add1_iff.mp e with e | ⟨p, q⟩
    · exact q1 u v hu hv e
    · have h0 : r.idxOf x < r.idxOf y := by simpa [bef] using q2
      have := le1 p
      have := le2 q
      unfold bef
      exact decide_eq_true (by omega)
theorem add1_cmp {n x y : Nat} {T : Tb} (tT : Tr n T) (iT : Irr n T) (hx : x < n) (hy : y < n) (hne : x ≠ y) (hyx : T y x = false) : cmp n (add1 T x y) n 0 = (cmp n T n 0).filter fun r => bef r x y := by
  rw [← rwP_fit (add1_irr tT iT hx hy hne hyx), ← rwP_fit iT, List.filter_filter]
  refine List.filter_congr fun r hr => ?_
  rw [add1_fit tT iT hx hy hne hyx (rwP_pm hr), Bool.and_comm]
theorem cmp_ex {n : Nat} {T : Tb} (tT : Tr n T) (iT : Irr n T) : ∀ {m F : Nat}, bits n F + m = n → ∃ s, s ∈ cmp n T m F
  | 0, F, _ => ⟨[], by simp [cmp]⟩
  | m + 1, F, h => by
    have hne : ((List.range n).filter fun x => !F.testBit x) ≠ [] := by
      intro e
      have h1 : ((List.range n).filter F.testBit).length = n := by
        rw [List.filter_eq_self.mpr ?_, List.length_range]
        intro a ha
        have := List.filter_eq_nil_iff.mp e a ha
        simpa using this
      unfold bits at h
      omega
    obtain ⟨a, ha, hmin⟩ := minimal_ex tT iT (r := (List.range n).filter fun x => !F.testBit x) (fun z hz => List.mem_range.mp (List.mem_filter.mp hz).1) hne
    obtain ⟨ha1, ha2⟩ := List.mem_filter.mp ha
    have hal := List.mem_range.mp ha1
    have hF : F.testBit a = false := by simpa using ha2
    have hfl : a ∈ fl n T F := mem_fl.mpr ⟨hal, hF, fun z hz e => by
      cases hb : F.testBit z with
      | true => rfl
      | false =>
        have := hmin z (List.mem_filter.mpr ⟨List.mem_range.mpr hz, by simp [hb]⟩)
        rw [this] at e; cases e⟩
    obtain ⟨s, hs⟩ := cmp_ex tT iT (m := m) (F := pt F a) (by rw [bits_pt hal hF]; omega)
    exact ⟨a :: s, cmp_cons.mpr ⟨hfl, hs⟩⟩
theorem ways_against {n x y : Nat} {T : Tb} (tT : Tr n T) (iT : Irr n T) (hx : x < n) (hy : y < n) (hne : x ≠ y) (hxy : T x y = false) : ∃ r ∈ cmp n T n 0, bef r x y = false := by
  obtain ⟨s, hs⟩ := cmp_ex (add1_tr tT hy hx (Ne.symm hne) hxy) (add1_irr tT iT hy hx (Ne.symm hne) hxy) (m := n) (F := 0) (by rw [bits_zero]; omega)
  rw [add1_cmp tT iT hy hx (Ne.symm hne) hxy] at hs
  obtain ⟨h1, h2⟩ := List.mem_filter.mp hs
  refine ⟨s, h1, ?_⟩
  have h3 : s.idxOf y < s.idxOf x := by simpa [bef] using h2
  unfold bef
  exact decide_eq_false (by omega)
end DC
set_option pp.maxSteps 1500
namespace DC
open PySem L2 DL
def ltR : List Nat → List Nat → Bool
  | _, [] => false
  | [], _ :: _ => true
  | a :: as, b :: bs => if a = b then ltR as bs else decide (a < b)
theorem ltR_irr : ∀ a : List Nat, ltR a a = false
  | [] => rfl
  | a :: as => by
    show (if a = a then ltR as as else _) = false
    rw [if_pos rfl, ltR_irr as]
theorem ltR_tr : ∀ {a b c : List Nat}, ltR a b = true → ltR b c = true → ltR a c = true
  | [], [], _, h, _ => by cases h
  | _ :: _, [], _, h, _ => by cases h
  | _, _ :: _, [], _, h => by cases h
  | [], _ :: _, _ :: _, _, _ => rfl
  | a :: as, b :: bs, c :: cs, h1, h2 => by
    have h1 : (if a = b then ltR as bs else decide (a < b)) = true := h1
    have h2 : (if b = c then ltR bs cs else decide (b < c)) = true := h2
    show (if a = c then ltR as cs else decide (a < c)) = true
    by_cases e1 : a = b
    · rw [if_pos e1] at h1
      by_cases e2 : b = c
      · rw [if_pos e2] at h2
        rw [if_pos (e1.trans e2)]
        exact ltR_tr h1 h2
      · rw [if_neg e2, decide_eq_true_eq] at h2
        rw [if_neg (by omega), decide_eq_true_eq]
        omega
    · rw [if_neg e1, decide_eq_true_eq] at h1
      by_cases e2 : b = c
      · rw [if_neg (by omega), decide_eq_true_eq]
        omega
      · rw [if_neg e2, decide_eq_true_eq] at h2
        rw [if_neg (by omega), decide_eq_true_eq]
        omega
theorem ltR_tot : ∀ {a b : List Nat}, a.length = b.length → a ≠ b → ltR a b = true ∨ ltR b a = true
  | [], [], _, h => absurd rfl h
  | [], _ :: _, h, _ => by cases h
  | _ :: _, [], h, _ => by cases h
  | a :: as, b :: bs, hl, h => by
    by_cases e : a = b
    · subst e
      have := ltR_tot (a := as) (b := bs) (by simpa using hl) (fun q => h (by rw [q]))
      show (if a = a then ltR as bs else _) = true ∨ (if a = a then ltR bs as else _) = true
      rw [if_pos rfl, if_pos rfl]
      exact this
    · show (if a = b then _ else decide (a < b)) = true ∨ (if b = a then _ else decide (b < a)) = true
      rw [if_neg e, if_neg (Ne.symm e), decide_eq_true_eq, decide_eq_true_eq]
      omega
theorem cmp_sorted {n : Nat} {T : Tb} : ∀ (m F : Nat), (cmp n T m F).Pairwise (fun a b => ltR a b = true)
  | 0, F => by simp [cmp]
  | m + 1, F => by
    have key : ∀ l : List Nat, l.Pairwise (· < ·) → (l.flatMap fun x => (cmp n T m (pt F x)).map fun r => x :: r).Pairwise (fun a b => ltR a b = true) := by
      intro l
      induction l with
      | nil => intro _; exact List.Pairwise.nil
      | cons x l ih =>
        intro h
        have h' := List.pairwise_cons.mp h
        rw [List.flatMap_cons, List.pairwise_append]
        refine ⟨?_, ih h'.2, fun a ha b hb => ?_⟩
        · rw [List.pairwise_map]
          refine (cmp_sorted m (pt F x)).imp fun {a b} hab => ?_
          show (if x = x then ltR a b else _) = true
          rw [if_pos rfl]; exact hab
        · obtain ⟨a', _, rfl⟩ := List.mem_map.mp ha
          obtain ⟨y, hy, hb⟩ := List.mem_flatMap.mp hb
          obtain ⟨b', _, rfl⟩ := List.mem_map.mp hb
          have := h'.1 y hy
          show (if x = y then _ else decide (x < y)) = true
          rw [if_neg (by omega), decide_eq_true_eq]
          exact this
    exact key _ fl_asc
abbrev Prs := List (Nat × Nat)
def leftP (ps : Prs) (r : List Nat) : Prs := ps.filter fun p => bef r p.2 p.1
def okP (ps : Prs) (r : List Nat) : Bool := ps.all fun p => bef r p.1 p.2
def lastP (R : List (List Nat)) (ps : Prs) : Option (List Nat) := R.find? (okP ps)
def adm (ch : List (List Nat)) (r : List Nat) : Bool := match ch.getLast? with
  | none => true
  | some c => ltR c r
def firstS (f : List Nat → Option (List (List Nat))) : List (List Nat) → Option (List (List Nat))
  | [] => none
  | r :: rs => match f r with
    | some x => some x
    | none => firstS f rs
def ext (R : List (List Nat)) : Nat → List (List Nat) → Prs → Option (List (List Nat))
  | 0, ch, ps => (lastP R ps).map fun z => ch ++ [z]
  | k + 1, ch, ps => firstS (fun r => if adm ch r = true then ext R k (ch ++ [r]) (leftP ps r) else none) R
theorem firstS_some {f : List Nat → Option (List (List Nat))} : ∀ {R : List (List Nat)} {x : List (List Nat)}, R.Pairwise (fun a b => ltR a b = true) → firstS f R = some x → ∃ r ∈ R, f r = some x ∧ ∀ s ∈ R, ltR s r = true → f s = none
  | [], x, _, h => by cases h
  | r :: rs, x, hp, h => by
    have hp' := List.pairwise_cons.mp hp
    unfold firstS at h
    cases e : f r with
    | some y =>
      rw [e] at h
      cases h
      refine ⟨r, by simp, e, fun s hs hl => ?_⟩
      rcases List.mem_cons.mp hs with rfl | hs
      · rw [ltR_irr] at hl; cases hl
      · have := ltR_tr hl (hp'.1 s hs)
        rw [ltR_irr] at this; cases this
    | none =>
      rw [e] at h
      obtain ⟨q, hq, h1, h2⟩ := firstS_some hp'.2 h
      refine ⟨q, by simp [hq], h1, fun s hs hl => ?_⟩
      rcases List.mem_cons.mp hs with rfl | hs
      · exact e
      · exact h2 s hs hl
theorem firstS_ne {f : List Nat → Option (List (List Nat))} {r : List Nat} : ∀ {R : List (List Nat)}, r ∈ R → f r ≠ none → firstS f R ≠ none
  | [], h, _ => by cases h
  | s :: rs, h, hf => by
    unfold firstS
    cases e : f s with
    | some y => simp
    | none =>
      dsimp only
      rcases List.mem_cons.mp h with rfl | h
      · exact absurd e hf
      · exact firstS_ne h hf
def Cov2 (ps : Prs) (cs : List (List Nat)) : Prop := ∀ p ∈ ps, ∃ r ∈ cs, bef r p.1 p.2 = true
def Tells (R : List (List Nat)) (ps : Prs) : Prop := ∀ r ∈ R, ∀ p ∈ ps, bef r p.1 p.2 = true ∨ bef r p.2 p.1 = true
theorem bef_asym {r : List Nat} {x y : Nat} (h : bef r x y = true) : bef r y x = false := by
  unfold bef at h ⊢
  rw [decide_eq_true_eq] at h
  exact decide_eq_false (by omega)
theorem Tells.left {R : List (List Nat)} {ps : Prs} {r : List Nat} (h : Tells R ps) : Tells R (leftP ps r) := fun s hs p hp => h s hs p (List.mem_filter.mp hp).1
theorem cov_cons {R : List (List Nat)} {ps : Prs} {r : List Nat} {cs : List (List Nat)} (ht : Tells R ps) (hr : r ∈ R) : Cov2 (leftP ps r) cs ↔ Cov2 ps (r :: cs) := by
  constructor
  · intro h p hp
    rcases ht r hr p hp with e | e
    · exact ⟨r, by simp, e⟩
    · obtain ⟨s, hs, h2⟩ := h p (List.mem_filter.mpr ⟨hp, e⟩)
      exact ⟨s, by simp [hs], h2⟩
  · intro h p hp
    obtain ⟨h1, h2⟩ := List.mem_filter.mp hp
    obtain ⟨s, hs, h3⟩ := h p h1
    rcases List.mem_cons.mp hs with rfl | hs
    · rw [bef_asym h3] at h2; cases h2
    · exact ⟨s, hs, h3⟩
theorem okP_iff {ps : Prs} {r : List Nat} : okP ps r = true ↔ Cov2 ps [r] := by
  unfold okP Cov2
  simp
theorem ext_ok {R : List (List Nat)} (hR : R.Pairwise fun a b => ltR a b = true) : ∀ {k : Nat} {ch : List (List Nat)} {ps : Prs} {res : List (List Nat)}, Tells R ps → ext R k ch ps = some res →
    ∃ cs z, res = ch ++ cs ++ [z] ∧ cs.length = k ∧ (∀ r ∈ cs, r ∈ R) ∧ z ∈ R ∧ Cov2 ps (cs ++ [z]) ∧ cs.Pairwise (fun a b => ltR a b = true) ∧ (∀ r, cs.head? = some r → adm ch r = true)
  | 0, ch, ps, res, ht, h => by
    unfold ext at h
    obtain ⟨z, hz, rfl⟩ := Option.map_eq_some_iff.mp h
    unfold lastP at hz
    exact ⟨[], z, by simp, rfl, (fun r hr => nomatch hr), List.mem_of_find?_eq_some hz, okP_iff.mp (List.find?_some hz), List.Pairwise.nil, fun r hr => by cases hr⟩
  | k + 1, ch, ps, res, ht, h => by
    unfold ext at h
    obtain ⟨r, hr, h1, h2⟩ := firstS_some hR h
    split at h1
    · rename_i ha
      obtain ⟨cs, z, e, hl, hcs, hz, hc, hp, hh⟩ := ext_ok hR ht.left h1
      refine ⟨r :: cs, z, by rw [e]; simp, by simp [hl], fun s hs => ?_, hz, (cov_cons ht hr).mp hc, List.pairwise_cons.mpr ⟨fun s hs => ?_, hp⟩, fun s hs => by cases hs; exact ha⟩
      · rcases List.mem_cons.mp hs with rfl | hs
        · exact hr
        · exact hcs s hs
      · cases cs with
        | nil => cases hs
        | cons c cs' =>
          have hc0 : ltR r c = true := by
            have := hh c rfl
            simpa [adm] using this
          rcases List.mem_cons.mp hs with rfl | hs
          · exact hc0
          · exact ltR_tr hc0 ((List.pairwise_cons.mp hp).1 s hs)
    · cases h1
theorem ext_ne {R : List (List Nat)} : ∀ {k : Nat} {ch : List (List Nat)} {ps : Prs} {cs : List (List Nat)} {z : List Nat}, Tells R ps → cs.length = k → (∀ r ∈ cs, r ∈ R) → z ∈ R → Cov2 ps (cs ++ [z]) → cs.Pairwise (fun a b => ltR a b = true) →
    (∀ r, cs.head? = some r → adm ch r = true) → ext R k ch ps ≠ none
  | 0, ch, ps, cs, z, ht, hl, _, hz, hc, _, _ => by
    have e : cs = [] := List.length_eq_zero_iff.mp hl
    subst e
    unfold ext lastP
    intro h
    have h := Option.map_eq_none_iff.mp h
    rw [List.find?_eq_none] at h
    exact h z hz (okP_iff.mpr hc)
  | k + 1, ch, ps, [], z, ht, hl, _, _, _, _, _ => by cases hl
  | k + 1, ch, ps, r :: cs, z, ht, hl, hcs, hz, hc, hp, hh => by
    unfold ext
    have hr := hcs r (by simp)
    have hp' := List.pairwise_cons.mp hp
    refine firstS_ne hr ?_
    rw [if_pos (hh r rfl)]
    refine ext_ne (cs := cs) (z := z) ht.left (by simpa using hl) (fun s hs => hcs s (by simp [hs])) hz ((cov_cons ht hr).mpr hc) hp'.2 fun s hs => ?_
    have : ltR r s = true := hp'.1 s (List.mem_of_mem_head? hs)
    simpa [adm] using this
theorem cov_mem {ps : Prs} {a b : List (List Nat)} (h : Cov2 ps a) (hs : ∀ r ∈ a, r ∈ b) : Cov2 ps b := fun p hp => by
  obtain ⟨r, hr, e⟩ := h p hp
  exact ⟨r, hs r hr, e⟩
theorem split_last {α : Type} : ∀ {l : List α}, l ≠ [] → ∃ l' z, l = l' ++ [z]
  | l, h => ⟨l.dropLast, l.getLast h, (List.dropLast_concat_getLast h).symm⟩
theorem ext_asc {R : List (List Nat)} {n : Nat} (hR : R.Pairwise fun a b => ltR a b = true) (hn : ∀ r ∈ R, r.length = n) : ∀ {k : Nat} {ch : List (List Nat)} {ps : Prs} {cs : List (List Nat)} {z : List Nat}, Tells R ps → ext R k ch ps = some (ch ++ cs ++ [z]) → cs.length = k →
    adm ch z = true → z ∉ cs → (cs ++ [z]).Pairwise (fun a b => ltR a b = true)
  | 0, ch, ps, cs, z, ht, h, hl, _, _ => by
    have e : cs = [] := List.length_eq_zero_iff.mp hl
    subst e
    simp
  | k + 1, ch, ps, [], z, ht, h, hl, _, _ => by cases hl
  | k + 1, ch, ps, r :: cs, z, ht, h, hl, ha, hz => by
    obtain ⟨cs2, z2, e2, l2, m2, hzR, hcov, hasc, hhd⟩ := ext_ok hR ht h
    have e3 : (r :: cs) ++ [z] = cs2 ++ [z2] := by
      rw [List.append_assoc, List.append_assoc] at e2
      exact List.append_cancel_left e2
    obtain ⟨e4, e5⟩ := List.append_inj' e3 rfl
    subst e4
    have e5 : z = z2 := by simpa using e5
    subst e5
    have h0 := h
    unfold ext at h0
    obtain ⟨r', hr', h1, h2⟩ := firstS_some hR h0
    split at h1
    · rename_i ha'
      obtain ⟨cs3, z3, e6, l3, _⟩ := ext_ok hR ht.left h1
      have e7 : r :: (cs ++ [z]) = r' :: (cs3 ++ [z3]) := by
        have : ch ++ (r :: (cs ++ [z])) = ch ++ (r' :: (cs3 ++ [z3])) := by
          have := e6
          simp only [List.append_assoc, List.cons_append, List.nil_append] at this ⊢
          exact this
        exact List.append_cancel_left this
      injection e7 with e8 e9
      subst e8
      have hrz : r ≠ z := fun e => hz (by simp [e])
      have hrR := m2 r (by simp)
      rcases ltR_tot ((hn r hrR).trans (hn z hzR).symm) hrz with hlt | hlt
      · have ih := ext_asc hR hn (k := k) (ch := ch ++ [r]) (ps := leftP ps r) (cs := cs) (z := z) ht.left (by rw [h1]; simp) (by simpa using hl) (by simpa [adm] using hlt) (fun m => hz (by simp [m]))
        show (r :: (cs ++ [z])).Pairwise _
        refine List.pairwise_cons.mpr ⟨fun s hs => ?_, ih⟩
        rcases List.mem_append.mp hs with m | m
        · exact (List.pairwise_cons.mp hasc).1 s m
        · have : s = z := by simpa using m
          subst this; exact hlt
      · exfalso
        have hno := h2 z hzR hlt
        rw [if_pos ha] at hno
        obtain ⟨as, w, ew⟩ := split_last (l := r :: cs) (by simp)
        have hwm : ∀ s, s ∈ as ++ [w] → s ∈ R := fun s hs => m2 s (by rw [ew]; exact hs)
        have lw : as.length = k := by
          have := congrArg List.length ew
          simp at this hl
          omega
        have hcz : Cov2 ps (z :: (as ++ [w])) := cov_mem hcov fun s hs => by
          rw [ew] at hs
          rcases List.mem_append.mp hs with m | m
          · simp only [List.mem_cons]; exact .inr m
          · have : s = z := by simpa using m
            simp [this]
        refine ext_ne (R := R) (k := k) (ch := ch ++ [z]) (ps := leftP ps z) (cs := as) (z := w) ht.left lw (fun s hs => hwm s (by simp [hs])) (hwm w (by simp)) ((cov_cons ht hzR).mpr hcz) ?_ (fun s hs => ?_) hno
        · rw [ew] at hasc
          exact (List.pairwise_append.mp hasc).1
        · have hs' : s ∈ r :: cs := by rw [ew]; exact List.mem_append_left _ (List.mem_of_mem_head? hs)
          have : ltR z s = true := by
            rcases List.mem_cons.mp hs' with rfl | hs'
            · exact hlt
            · exact ltR_tr hlt ((List.pairwise_cons.mp hasc).1 s hs')
          simpa [adm] using this
    · cases h1
end DC
set_option pp.maxSteps 1500
namespace DC
open PySem L2 DL
def unl (T : Tb) : Tb := fun x y => !(decide (x = y) || T x y || T y x)
theorem unl_iff {T : Tb} {x y : Nat} : unl T x y = true ↔ x ≠ y ∧ T x y = false ∧ T y x = false := by
  unfold unl
  simp only [Bool.not_eq_true', Bool.or_eq_false_iff, decide_eq_false_iff_not]
  exact ⟨fun h => ⟨h.1.1, h.1.2, h.2⟩, fun h => ⟨⟨h.1, h.2.1⟩, h.2.2⟩⟩
abbrev Wys (n : Nat) (T : Tb) : List (List Nat) := cmp n T n 0
abbrev Lse (n : Nat) (T : Tb) : Prs := prs n (unl T)
theorem mem_lse {n x y : Nat} {T : Tb} : (x, y) ∈ Lse n T ↔ x < n ∧ y < n ∧ x ≠ y ∧ T x y = false ∧ T y x = false := by
  rw [mem_prs, unl_iff]
theorem lse_swap {n : Nat} {T : Tb} {p : Nat × Nat} (h : p ∈ Lse n T) : (p.2, p.1) ∈ Lse n T := by
  obtain ⟨x, y⟩ := p
  rw [mem_lse] at h ⊢
  exact ⟨h.2.1, h.1, Ne.symm h.2.2.1, h.2.2.2.2, h.2.2.2.1⟩
theorem bef_or {n x y : Nat} {r : List Nat} (h : Pm n r) (hx : x < n) (hy : y < n) (hne : x ≠ y) : bef r x y = true ∨ bef r y x = true := by
  have : r.idxOf x ≠ r.idxOf y := fun e => hne (h.inj hx hy e)
  unfold bef
  rw [decide_eq_true_eq, decide_eq_true_eq]
  omega
theorem wys_tells {n : Nat} {T : Tb} (iT : Irr n T) : Tells (Wys n T) (Lse n T) := fun r hr p hp => by
  obtain ⟨h1, h2, h3, _⟩ := mem_lse.mp (show (p.1, p.2) ∈ Lse n T from hp)
  exact bef_or (cmp_pm iT hr).1 h1 h2 h3
theorem wys_sorted {n : Nat} {T : Tb} : (Wys n T).Pairwise fun a b => ltR a b = true := cmp_sorted n 0
theorem wys_len {n : Nat} {T : Tb} (iT : Irr n T) : ∀ r ∈ Wys n T, r.length = n := fun r hr => (cmp_pm iT hr).1.len
theorem wys_ne {n : Nat} {T : Tb} (tT : Tr n T) (iT : Irr n T) : Wys n T ≠ [] := by
  obtain ⟨s, hs⟩ := cmp_ex tT iT (m := n) (F := 0) (by rw [bits_zero]; omega)
  exact List.ne_nil_of_mem hs
theorem wys_bef {n x y : Nat} {T : Tb} {r : List Nat} (iT : Irr n T) (hr : r ∈ Wys n T) (hx : x < n) (hy : y < n) (h : T x y = true) : bef r x y = true := (fit_idx iT (cmp_pm iT hr).1).mp (cmp_pm iT hr).2 x y hx hy h
theorem rows_eq {n : Nat} {r s : List Nat} (hr : Pm n r) (hs : Pm n s) (h : ∀ x y, x < n → y < n → bef r x y = bef s x y) : r = s := by
  have key : ∀ {t : List Nat}, Pm n t → t.Pairwise fun x y => bef t x y = true := fun {t} ht => by
    rw [List.pairwise_iff_getElem]
    intro i j hi hj hij
    unfold bef
    rw [decide_eq_true_eq, ht.nd.idxOf_getElem i hi, ht.nd.idxOf_getElem j hj]
    exact hij
  have hs2 : s.Pairwise fun x y => bef r x y = true := by
    have := key hs
    rw [List.pairwise_iff_getElem] at this ⊢
    intro i j hi hj hij
    rw [h _ _ (hs.lt _ (List.getElem_mem hi)) (hs.lt _ (List.getElem_mem hj))]
    exact this i j hi hj hij
  refine List.Perm.eq_of_pairwise (le := fun x y => bef r x y = true) (fun a b _ _ h1 h2 => ?_) (key hr) hs2 (hr.perm.trans hs.perm.symm)
  rw [bef_asym h1] at h2
  cases h2
theorem lse_nil {n : Nat} {T : Tb} (tT : Tr n T) (iT : Irr n T) : Lse n T = [] ↔ (Wys n T).length = 1 := by
  constructor
  · intro h
    have hno : ∀ x y, x < n → y < n → x ≠ y → T x y = true ∨ T y x = true := fun x y hx hy hne => by
      cases e1 : T x y with
      | true => exact .inl rfl
      | false =>
        cases e2 : T y x with
        | true => exact .inr rfl
        | false =>
          have : (x, y) ∈ Lse n T := mem_lse.mpr ⟨hx, hy, hne, e1, e2⟩
          rw [h] at this; cases this
    have hall : ∀ r ∈ Wys n T, ∀ x y, x < n → y < n → (bef r x y = true ↔ T x y = true) := fun r hr x y hx hy => by
      constructor
      · intro hb
        by_cases hne : x = y
        · subst hne; rw [bef_asym hb] at hb; cases hb
        · rcases hno x y hx hy hne with e | e
          · exact e
          · rw [bef_asym (wys_bef iT hr hy hx e)] at hb; cases hb
      · exact wys_bef iT hr hx hy
    have hw := wys_ne tT iT
    cases hR : Wys n T with
    | nil => exact absurd hR hw
    | cons r rs =>
      cases rs with
      | nil => rfl
      | cons s ss =>
        exfalso
        have hr : r ∈ Wys n T := by rw [hR]; simp
        have hs : s ∈ Wys n T := by rw [hR]; simp
        have e := rows_eq (cmp_pm iT hr).1 (cmp_pm iT hs).1 fun x y hx hy => by
          rw [Bool.eq_iff_iff, hall r hr x y hx hy, hall s hs x y hx hy]
        have := wys_sorted (n := n) (T := T)
        rw [hR] at this
        have := (List.pairwise_cons.mp this).1 s (by simp)
        rw [e, ltR_irr] at this
        cases this
  · intro h
    cases hP : Lse n T with
    | nil => rfl
    | cons p ps =>
      exfalso
      have hp : p ∈ Lse n T := by rw [hP]; simp
      obtain ⟨h1, h2, h3, h4, h5⟩ := mem_lse.mp (show (p.1, p.2) ∈ Lse n T from hp)
      obtain ⟨r, hr, hb⟩ := ways_against tT iT h1 h2 h3 h4
      obtain ⟨s, hs, hb2⟩ := ways_against tT iT h2 h1 (Ne.symm h3) h5
      have e : r = s := by
        cases hR : Wys n T with
        | nil => rw [hR] at h; cases h
        | cons a as =>
          cases as with
          | nil =>
            have hr' : r ∈ Wys n T := hr
            have hs' : s ∈ Wys n T := hs
            rw [hR] at hr' hs'
            have e1 : r = a := by simpa using hr'
            have e2 : s = a := by simpa using hs'
            rw [e1, e2]
          | cons b bs => rw [hR] at h; simp at h
      subst e
      rcases wys_tells iT r hr p hp with q | q
      · rw [q] at hb; cases hb
      · rw [q] at hb2; cases hb2
structure Told (n : Nat) (T : Tb) (c : Nat) (L : List (List Nat)) : Prop where
  fd : ext (Wys n T) c [] (Lse n T) = some L
  mn : ∀ j, j < c → ext (Wys n T) j [] (Lse n T) = none
  cn : c ≤ n
theorem Told.ok {n c : Nat} {T : Tb} {L : List (List Nat)} (iT : Irr n T) (h : Told n T c L) : L.length = c + 1 ∧ (∀ r ∈ L, r ∈ Wys n T) ∧ Cov2 (Lse n T) L ∧ L.Pairwise (fun a b => ltR a b = true) := by
  obtain ⟨cs, z, e, hl, hcs, hz, hc, hp, _⟩ := ext_ok wys_sorted (wys_tells iT) h.fd
  rw [List.nil_append] at e
  subst e
  refine ⟨by simp [hl], fun r hr => ?_, hc, ?_⟩
  · rcases List.mem_append.mp hr with m | m
    · exact hcs r m
    · have : r = z := by simpa using m
      subst this; exact hz
  · refine ext_asc (k := c) (ch := []) (ps := Lse n T) wys_sorted (wys_len iT) (wys_tells iT) (by rw [List.nil_append]; exact h.fd) hl rfl fun m => ?_
    have hne : cs ≠ [] := List.ne_nil_of_mem m
    obtain ⟨as, w, ew⟩ := split_last hne
    have la : as.length + 1 = c := by rw [← hl, ew]; simp
    have hno := h.mn as.length (by omega)
    refine ext_ne (cs := as) (z := w) (wys_tells iT) rfl (fun r hr => hcs r (by rw [ew]; simp [hr])) (hcs w (by rw [ew]; simp)) ?_ ?_ (fun r hr => rfl) hno
    · refine cov_mem hc fun r hr => ?_
      rw [← ew]
      rcases List.mem_append.mp hr with q | q
      · exact q
      · have : r = z := by simpa using q
        subst this; exact m
    · rw [ew] at hp
      exact (List.pairwise_append.mp hp).1
theorem Told.one {n c : Nat} {T : Tb} {L : List (List Nat)} (tT : Tr n T) (iT : Irr n T) (h : Told n T c L) : c = 0 ↔ (Wys n T).length = 1 := by
  rw [← lse_nil tT iT]
  constructor
  · intro e
    subst e
    obtain ⟨hl, hm, hc, _⟩ := h.ok iT
    cases hP : Lse n T with
    | nil => rfl
    | cons p ps =>
      exfalso
      have hp : p ∈ Lse n T := by rw [hP]; simp
      obtain ⟨r, hr, h1⟩ := hc p hp
      obtain ⟨s, hs, h2⟩ := hc _ (lse_swap hp)
      cases L with
      | nil => cases hl
      | cons a as =>
        have : as = [] := by simpa using hl
        subst this
        have e1 : r = a := by simpa using hr
        have e2 : s = a := by simpa using hs
        subst e1 e2
        rw [bef_asym h1] at h2; cases h2
  · intro e
    cases c with
    | zero => rfl
    | succ c =>
      exfalso
      have := h.mn 0 (by omega)
      obtain ⟨r, hr⟩ := List.exists_mem_of_ne_nil _ (wys_ne tT iT)
      exact ext_ne (cs := []) (z := r) (wys_tells iT) rfl (fun r hr => nomatch hr) hr (by rw [e]; exact fun p hp => nomatch hp) List.Pairwise.nil (fun r hr => by cases hr) this
end DC
set_option pp.maxSteps 1500
namespace DC
open PySem L2 DL
def revP (P : Prs) (r s : List Nat) : Bool := P.all fun p => bef s p.1 p.2 == bef r p.2 p.1
def pairS (f : List Nat → List Nat → Bool) : List (List Nat) → Option (List Nat × List Nat)
  | [] => none
  | r :: rs => match rs.find? (f r) with
    | some s => some (r, s)
    | none => pairS f rs
theorem find_first {f : List Nat → Bool} : ∀ {R : List (List Nat)} {s : List Nat}, R.Pairwise (fun a b => ltR a b = true) → R.find? f = some s → ∀ t ∈ R, f t = true → ltR t s = false
  | [], s, _, h, t, ht, _ => by cases ht
  | r :: rs, s, hp, h, t, ht, hf => by
    have hp' := List.pairwise_cons.mp hp
    cases e : f r with
    | true =>
      rw [List.find?_cons_of_pos e] at h
      cases h
      cases q : ltR t r with
      | false => rfl
      | true =>
        rcases List.mem_cons.mp ht with rfl | ht
        · rw [ltR_irr] at q; cases q
        · have := ltR_tr q (hp'.1 t ht)
          rw [ltR_irr] at this; cases this
    | false =>
      rw [List.find?_cons_of_neg (by rw [e]; decide)] at h
      rcases List.mem_cons.mp ht with rfl | ht
      · rw [e] at hf; cases hf
      · exact find_first hp'.2 h t ht hf
theorem pairS_none {f : List Nat → List Nat → Bool} : ∀ {R : List (List Nat)}, R.Pairwise (fun a b => ltR a b = true) → pairS f R = none → ∀ r ∈ R, ∀ s ∈ R, ltR r s = true → f r s = false
  | [], _, _, r, hr, _, _, _ => by cases hr
  | a :: as, hp, h, r, hr, s, hs, hl => by
    have hp' := List.pairwise_cons.mp hp
    unfold pairS at h
    cases e : as.find? (f a) with
    | some y => rw [e] at h; cases h
    | none =>
      rw [e] at h
      have hb : s ∈ as := by
        rcases List.mem_cons.mp hs with rfl | hs
        · exfalso
          rcases List.mem_cons.mp hr with rfl | hr
          · rw [ltR_irr] at hl; cases hl
          · have := ltR_tr hl (hp'.1 r hr)
            rw [ltR_irr] at this; cases this
        · exact hs
      rcases List.mem_cons.mp hr with rfl | hr
      · rw [List.find?_eq_none] at e
        simpa using e s hb
      · exact pairS_none hp'.2 h r hr s hb hl
theorem pairS_some {f : List Nat → List Nat → Bool} : ∀ {R : List (List Nat)} {r s : List Nat}, R.Pairwise (fun a b => ltR a b = true) → pairS f R = some (r, s) →
    r ∈ R ∧ s ∈ R ∧ ltR r s = true ∧ f r s = true ∧ (∀ r' ∈ R, ∀ s' ∈ R, ltR r' s' = true → f r' s' = true → ltR r' r = false) ∧ (∀ s' ∈ R, ltR r s' = true → f r s' = true → ltR s' s = false)
  | [], r, s, _, h => by cases h
  | a :: as, r, s, hp, h => by
    have hp' := List.pairwise_cons.mp hp
    have inA : ∀ {u}, u ∈ a :: as → ltR a u = true → u ∈ as := fun hu hl => by
      rcases List.mem_cons.mp hu with rfl | hu
      · rw [ltR_irr] at hl; cases hl
      · exact hu
    have notLt : ∀ {u}, u ∈ a :: as → ltR u a = false := fun {u} hu => by
      cases q : ltR u a with
      | false => rfl
      | true =>
        rcases List.mem_cons.mp hu with rfl | hu
        · rw [ltR_irr] at q; cases q
        · have := ltR_tr q (hp'.1 u hu)
          rw [ltR_irr] at this; cases this
    unfold pairS at h
    cases e : as.find? (f a) with
    | some y =>
      rw [e] at h
      cases h
      have hs := List.mem_of_find?_eq_some e
      refine ⟨by simp, by simp [hs], hp'.1 s hs, List.find?_some e, fun r' hr' s' _ _ _ => notLt hr', fun s' hs' hl hf => find_first hp'.2 e s' (inA hs' hl) hf⟩
    | none =>
      rw [e] at h
      obtain ⟨h1, h2, h3, h4, h5, h6⟩ := pairS_some hp'.2 h
      refine ⟨by simp [h1], by simp [h2], h3, h4, fun r' hr' s' hs' hl hf => ?_, fun s' hs' hl hf => h6 s' ?_ hl hf⟩
      · rcases List.mem_cons.mp hr' with rfl | hr'
        · exfalso
          rw [List.find?_eq_none] at e
          exact e s' (inA hs' hl) hf
        · have hs2 : s' ∈ as := inA hs' (ltR_tr (hp'.1 r' hr') hl)
          exact h5 r' hr' s' hs2 hl hf
      · exact inA hs' (ltR_tr (hp'.1 r h1) hl)
theorem rev_cov {n : Nat} {T : Tb} {r s : List Nat} (iT : Irr n T) (hr : r ∈ Wys n T) (hs : s ∈ Wys n T) : revP (Lse n T) r s = true ↔ Cov2 (Lse n T) [r, s] := by
  unfold revP
  rw [List.all_eq_true]
  constructor
  · intro h p hp
    rcases wys_tells iT r hr p hp with q | q
    · exact ⟨r, by simp, q⟩
    · have := h p hp
      rw [q] at this
      exact ⟨s, by simp, by simpa using this⟩
  · intro h p hp
    rcases wys_tells iT r hr p hp with q | q
    · obtain ⟨t, ht, h2⟩ := h _ (lse_swap hp)
      have : t = s := by
        rcases List.mem_cons.mp ht with rfl | ht
        · rw [bef_asym q] at h2; cases h2
        · simpa using ht
      subst this
      rw [bef_asym q, bef_asym h2]
      rfl
    · obtain ⟨t, ht, h2⟩ := h p hp
      have : t = s := by
        rcases List.mem_cons.mp ht with rfl | ht
        · rw [bef_asym q] at h2; cases h2
        · simpa using ht
      subst this
      rw [q, h2]
      rfl
theorem Told.two {n c : Nat} {T : Tb} {L : List (List Nat)} (tT : Tr n T) (iT : Irr n T) (h : Told n T c L) (hR : 1 < (Wys n T).length) :
    (pairS (revP (Lse n T)) (Wys n T) = none ↔ 2 < L.length) ∧ ∀ r s, pairS (revP (Lse n T)) (Wys n T) = some (r, s) → L = [r, s] := by
  have hP : Lse n T ≠ [] := fun e => by
    have := (lse_nil tT iT).mp e
    have h2 : (Wys n T).length = 1 := this
    omega
  have hc0 : c ≠ 0 := fun e => by
    have := (h.one tT iT).mp e
    omega
  obtain ⟨hl, hm, hc, hs⟩ := h.ok iT
  have two : ∀ {a b}, a ∈ Wys n T → b ∈ Wys n T → Cov2 (Lse n T) [a, b] → ltR a b = true → c = 1 := fun {a b} ha hb hcv hlt => by
    rcases Nat.lt_or_ge 1 c with q | q
    · exfalso
      refine ext_ne (cs := [a]) (z := b) (wys_tells iT) rfl (fun r hr => ?_) hb hcv (by simp) (fun r hr => rfl) (h.mn 1 q)
      have : r = a := by simpa using hr
      subst this; exact ha
    · omega
  have key : ∀ r s, pairS (revP (Lse n T)) (Wys n T) = some (r, s) → L = [r, s] := fun r s e => by
    obtain ⟨p1, p2, p3, p4, p5, p6⟩ := pairS_some wys_sorted e
    have hcv := (rev_cov iT p1 p2).mp p4
    have hc1 := two p1 p2 hcv p3
    subst hc1
    obtain ⟨a, b, eL⟩ : ∃ a b, L = [a, b] := by
      match L, hl with
      | [a, b], _ => exact ⟨a, b, rfl⟩
    subst eL
    have ha := hm a (by simp)
    have hb := hm b (by simp)
    have hab : ltR a b = true := (List.pairwise_cons.mp hs).1 b (by simp)
    have f1 : ltR a r = false := p5 a ha b hb hab ((rev_cov iT ha hb).mpr hc)
    have hfd := h.fd
    unfold ext at hfd
    obtain ⟨q, hq, g1, g2⟩ := firstS_some wys_sorted hfd
    rw [if_pos (show adm [] q = true from rfl)] at g1
    unfold ext at g1
    obtain ⟨z, hz, ez⟩ := Option.map_eq_some_iff.mp g1
    have e1 : q = a ∧ z = b := by simpa using ez
    obtain ⟨rfl, rfl⟩ := e1
    have f2 : ltR r q = false := by
      cases w : ltR r q with
      | false => rfl
      | true =>
        have := g2 r p1 w
        rw [if_pos (show adm [] r = true from rfl)] at this
        exfalso
        exact ext_ne (k := 0) (ch := [] ++ [r]) (cs := []) (z := s) (wys_tells iT).left rfl (fun r hr => nomatch hr) p2 ((cov_cons (wys_tells iT) p1).mpr hcv) List.Pairwise.nil (fun r hr => by cases hr) this
    have er : q = r := by
      false_or_by_contra
      rename_i hne
      rcases ltR_tot ((wys_len iT q ha).trans (wys_len iT r p1).symm) hne with w | w
      · rw [w] at f1; cases f1
      · rw [w] at f2; cases f2
    subst er
    have es : z = s := by
      false_or_by_contra
      rename_i hne
      unfold lastP at hz
      have g3 : ltR s z = false := find_first wys_sorted hz s p2 (okP_iff.mpr ((cov_cons (wys_tells iT) p1).mpr hcv))
      have g4 : ltR z s = false := p6 z hb hab ((rev_cov iT ha hb).mpr hc)
      rcases ltR_tot ((wys_len iT z hb).trans (wys_len iT s p2).symm) hne with w | w
      · rw [w] at g4; cases g4
      · rw [w] at g3; cases g3
    rw [es]
  refine ⟨⟨fun e => ?_, fun e => ?_⟩, key⟩
  · rw [hl]
    false_or_by_contra
    rename_i hn
    have hc1 : c = 1 := by omega
    subst hc1
    obtain ⟨a, b, eL⟩ : ∃ a b, L = [a, b] := by
      match L, hl with
      | [a, b], _ => exact ⟨a, b, rfl⟩
    subst eL
    have hab : ltR a b = true := (List.pairwise_cons.mp hs).1 b (by simp)
    have := pairS_none wys_sorted e a (hm a (by simp)) b (hm b (by simp)) hab
    rw [(rev_cov iT (hm a (by simp)) (hm b (by simp))).mpr hc] at this
    cases this
  · cases q : pairS (revP (Lse n T)) (Wys n T) with
    | none => rfl
    | some x =>
      have := key x.1 x.2 q
      rw [this] at e
      simp at e
end DC
namespace DC
open PySem L2 DL
end DC
namespace DC
open PySem L2 DL
def plc0 (n : Nat) (s : Nat → Nat) (m : Nat) : Nat := ((List.range n).find? fun x => decide (s x = m)).getD 0
def bndR (n : Nat) (s : Nat → Nat) (x y : Nat) : Int := if (s x &&& s y) ∈ (List.range n).map s then (plc0 n s (s x &&& s y) : Int) else -1
end DC
namespace DC
open PySem L2 DL
def upm (n : Nat) (T : Tb) (x : Nat) : Nat := mask n fun y => decide (x = y) || T x y
def dnm (n : Nat) (T : Tb) (y : Nat) : Nat := mask n fun x => decide (x = y) || T x y
def tabI (n : Nat) (J : Nat → Nat → Int) : D := .n .tup false (vec n fun x => .n .tup false (vec n fun y => .a (.int (J x y))))
def IsLat (n : Nat) (T : Tb) : Prop := 0 < n ∧ (∀ x, x < n → ∀ y, y < n → bndR n (upm n T) x y ≠ -1) ∧ ∀ x, x < n → ∀ y, y < n → bndR n (dnm n T) x y ≠ -1
def latD (o : Bool) (n : Nat) (T : Tb) : D := .n (.ins "Lattice" ["above", "joins", "meets"]) o [.n .tup false (vec n (mrow n T)), tabI n (bndR n (upm n T)), tabI n (bndR n (dnm n T))]
end DC
namespace DC
open PySem L2 DL
end DC
namespace DC
open PySem L2 DL
def le (T : Tb) (x y : Nat) : Bool := decide (x = y) || T x y
theorem le_refl {T : Tb} {x : Nat} : le T x x = true := by simp [le]
theorem le_of {T : Tb} {x y : Nat} (h : T x y = true) : le T x y = true := by simp [le, h]
theorem le_iff {T : Tb} {x y : Nat} : le T x y = true ↔ x = y ∨ T x y = true := by simp [le]
theorem le_trans {n : Nat} {T : Tb} (tT : Tr n T) {a b c : Nat} (ha : a < n) (hb : b < n) (hc : c < n) (h1 : le T a b = true) (h2 : le T b c = true) : le T a c = true := by
  rcases le_iff.mp h1 with rfl | h1'
  · exact h2
  rcases le_iff.mp h2 with rfl | h2'
  · exact h1
  exact le_of (tT a b c ha hb hc h1' h2')
def jn (n : Nat) (T : Tb) (x y : Nat) : Nat := (bndR n (upm n T) x y).toNat
def mt (n : Nat) (T : Tb) (x y : Nat) : Nat := (bndR n (dnm n T) x y).toNat
def ji (n : Nat) (T : Tb) (x : Nat) : Bool := decide (((prs n (covs n T)).filter fun p => decide (p.2 = x)).length = 1)
end DC
namespace DC
open PySem L2 DL
end DC
namespace DC
open PySem L2 DL
end DC
namespace DC
open PySem L2 DL
end DC
namespace DC
open PySem L2 DL
theorem set_same {ρ : DL.Env} {i : Nat} {o : Option D} (h : ρ[i]? = some o) : ρ.set i o = ρ := by
  apply List.ext_getElem?
  intro m
  by_cases q : i = m
  · subst q; rw [get_set_self (List.getElem?_eq_some_iff.mp h).1, h]
  · rw [get_set_ne q]
theorem w_fz {fa : DL.Env → Out D} {ρ : DL.Env} {d : D} (h : fa ρ = .ok d ρ) : dFz fa ρ = .ok (frz d) ρ := by
  apply out_eq
  rw [w_Fz, h]
  exact ⟨rfl, rfl⟩
end DC
namespace DC
open PySem L2 DL
theorem ag2 {fa fb : DL.Env → Out D} {ρ : DL.Env} {a b : D} (ha : fa ρ = .ok a ρ) (hb : fb ρ = .ok b ρ) : dACons fa (dACons fb dANil) ρ = .ok [.d a, .d b] ρ := by
  apply out_eq
  rw [w_ACons, ha, wo_ok, w_ACons, hb, wo_ok, w_ANil]
  exact ⟨rfl, rfl⟩
theorem eqN {f g : DL.Env → Out D} {ρ : DL.Env} {a b : Nat} (hf : f ρ = .ok (natD a) ρ) (hg : g ρ = .ok (natD b) ρ) : dB (dOp2 gEq f g) ρ = .ok (decide (a = b)) ρ := by
  apply out_eq
  rw [w_B, w_Op2, hf, wo_ok, hg, wo_ok]
  simp [natD]
  omega
theorem neN {f g : DL.Env → Out D} {ρ : DL.Env} {a b : Nat} (hf : f ρ = .ok (natD a) ρ) (hg : g ρ = .ok (natD b) ρ) : dB (dOp2 gNe f g) ρ = .ok (!decide (a = b)) ρ := by
  apply out_eq
  rw [w_B, w_Op2, hf, wo_ok, hg, wo_ok]
  simp [natD]
  by_cases e : a = b
  · simp [e]
  · have : ¬ (a : Int) = b := by omega
    simp [e, this]
theorem andE {f g : DL.Env → Out Bool} {ρ : DL.Env} {a b : Bool} (hf : f ρ = .ok a ρ) (hg : a = true → g ρ = .ok b ρ) : dAndT f g ρ = .ok (a && b) ρ := by
  apply out_eq
  rw [w_AndT, hf, wo_ok]
  cases a with
  | false => rw [if_neg (by decide)]; exact ⟨rfl, rfl⟩
  | true => rw [if_pos rfl, hg rfl, wo_ok]; exact ⟨by simp, rfl⟩
theorem orE {f g : DL.Env → Out Bool} {ρ : DL.Env} {a b : Bool} (hf : f ρ = .ok a ρ) (hg : a = false → g ρ = .ok b ρ) : dOrT f g ρ = .ok (a || b) ρ := by
  apply out_eq
  rw [w_OrT, hf, wo_ok]
  cases a with
  | false => rw [if_neg (by decide), hg rfl, wo_ok]; exact ⟨by simp, rfl⟩
  | true => rw [if_pos rfl]; exact ⟨rfl, rfl⟩
end DC
namespace DC
open PySem L2 DL
def itL (L : List Nat) (i : Nat) : Nat := L.getD i 0
structure Fam (L : List Nat) : Prop where
  nd : L.Nodup
  ne : L ≠ []
  lt : ∀ a ∈ L, a < 8
  cl : ∀ a ∈ L, ∀ b ∈ L, a &&& b ∈ L ∧ a ||| b ∈ L
theorem nodup_lt {n : Nat} : ∀ {l : List Nat}, l.Nodup → (∀ x ∈ l, x < n) → l.length ≤ n := by
  induction n with
  | zero =>
    intro l _ h
    cases l with
    | nil => exact Nat.le_refl _
    | cons x l => exact absurd (h x (by simp)) (Nat.not_lt_zero _)
  | succ n ih =>
    intro l nd h
    have h1 : (l.erase n).length ≤ n := ih (nd.erase n) fun x hx => by
      have h2 := List.mem_of_mem_erase hx
      have h3 : x ≠ n := fun e => by
        subst e
        exact (List.Nodup.not_mem_erase nd) hx
      have := h x h2
      omega
    have h2 : l.length ≤ (l.erase n).length + 1 := by
      rw [List.length_erase]
      split <;> omega
    omega
structure LatOk (n : Nat) (ps : List (Nat × Nat)) : Prop where
  bd : Bd n ps
  ir : Irr n (clo n ps)
  la : IsLat n (clo n ps)
  hn : n ≤ 20
  hl : ps.length ≤ 1000
theorem mem_pts {m x : Nat} (hx : x < 3) : x ∈ (List.range 3).filter m.testBit ↔ m.testBit x = true := by
  rw [List.mem_filter, List.mem_range]
  exact ⟨fun h => h.2, fun h => ⟨hx, h⟩⟩
end DC
namespace DC
open PySem L2 DL
end DC
namespace DC
open PySem L2 DL
end DC
namespace DC
open PySem L2 DL
end DC
namespace DC
open PySem L2 DL
end DC
namespace DC
open PySem L2 DL
def gens (L : List Nat) (a : Nat) : List Nat := L.flatMap fun b => [a &&& b, a ||| b]
def ins (l : List Nat) (x : Nat) : List Nat := if x ∈ l then l else l ++ [x]
structure Shp (l : List Nat) : Prop where
  ex : ∃ hd tl, l = hd ++ tl ∧ hd.length ≤ 3 ∧ hd ≠ [] ∧ tl.Nodup
  lt : ∀ x ∈ l, x < 8
end DC
namespace DC
open PySem L2 DL
instance {n : Nat} {ps : List (Nat × Nat)} : Decidable (Bd n ps) := inferInstanceAs (Decidable (∀ p ∈ ps, p.1 < n ∧ p.2 < n))
theorem addE {f g : DL.Env → Out D} {ρ : DL.Env} {a b : Nat} (hf : f ρ = .ok (natD a) ρ) (hg : g ρ = .ok (natD b) ρ) : dOp2 gAdd f g ρ = .ok (natD (a + b)) ρ := by
  apply out_eq
  rw [w_Op2, hf, wo_ok, hg, wo_ok]
  simp [natD]
end DC
namespace DC
open PySem L2 DL
theorem neNN {f g : DL.Env → Out D} {ρ : DL.Env} {a : Nat} (hf : f ρ = .ok (natD a) ρ) (hg : g ρ = .ok (natD a) ρ) : dB (dOp2 gNe f g) ρ = .ok false ρ := by
  rw [neN hf hg]
  simp
theorem neS {f g : DL.Env → Out D} {ρ : DL.Env} {k : Kd} {o o' : Bool} {xs : List D} (hk : k = .tup ∨ k = .lst) (h : ∀ x ∈ xs, pD 59 x = true) (hf : f ρ = .ok (.n k o xs) ρ) (hg : g ρ = .ok (.n k o' xs) ρ) : dB (dOp2 gNe f g) ρ = .ok false ρ := by
  apply out_eq
  rw [w_B, w_Op2, hf, wo_ok, hg, wo_ok, ne_same hk h]
  exact ⟨rfl, rfl⟩
theorem if_no {Q : Ps} {t : DL.Env → Out Bool} {f g : DL.Env → Fl} {ρ : DL.Env} (h : t ρ = .ok false ρ) (k : WP Q (g ρ)) : WP Q (dIf t f g ρ) := by
  rw [p_If, h, wo_ok, if_neg (by decide)]
  exact k
theorem bE {f : DL.Env → Out D} {ρ : DL.Env} {b : Bool} (hf : f ρ = .ok (.a (.bl b)) ρ) : dB f ρ = .ok b ρ := by
  apply out_eq
  rw [w_B, hf, wo_ok]
  exact ⟨rfl, rfl⟩
end DC
namespace DC
open PySem L2 DL
def Pt (n : Nat) (c : Nat → Nat) : Prop := ∀ x, x < n → c x ≤ x ∧ c (c x) = c x
def Ref (n : Nat) (c d : Nat → Nat) : Prop := ∀ a b, a < n → b < n → c a = c b → d a = d b
def Con (n : Nat) (T : Tb) (c : Nat → Nat) : Prop := ∀ x y z, x < n → y < n → z < n → c x = c y → c (jn n T x z) = c (jn n T y z) ∧ c (mt n T x z) = c (mt n T y z)
section
variable {n : Nat} {T : Tb} (tT : Tr n T) (iT : Irr n T) (L : IsLat n T)
include tT iT L
end
structure Pas (n : Nat) (T : Tb) (c c' : Nat → Nat) : Prop where
  pt : Pt n c'
  le : ∀ z, z < n → c' z ≤ c z
  gr : Ref n c c'
  rf : ∀ d, Con n T d → Ref n c d → Ref n c' d
section
variable {n : Nat} {T : Tb} (tT : Tr n T) (iT : Irr n T) (L : IsLat n T)
include tT iT L
end
structure Lst (n : Nat) (T : Tb) (ps : List (Nat × Nat)) (c : Nat → Nat) : Prop where
  pt : Pt n c
  con : Con n T c
  has : ∀ p ∈ ps, c p.1 = c p.2
  le : ∀ d, Con n T d → (∀ p ∈ ps, d p.1 = d p.2) → Ref n c d
end DC
namespace DC
open PySem L2 DL
end DC
namespace DC
open PySem L2 DL
section
variable {n : Nat} {T : Tb} (tT : Tr n T) (iT : Irr n T) (L : IsLat n T)
include tT iT L
end
def pl : Nat → List (List Nat)
  | 0 => [[]]
  | x + 1 => (pl x).flatMap fun h => ((List.range (x + 1)).filter fun k => decide (k = x) || decide (itL h k = k)).map fun k => h ++ [k]
end DC
namespace DC
open PySem L2 DL
abbrev Ow := List (Nat × Nat)
def oAt : Ow → Nat → Option Nat
  | [], _ => none
  | p :: m, y => if p.1 = y then some p.2 else oAt m y
def TOk (R : Nat) (T : List Nat) : Prop := T.Nodup ∧ ∀ y ∈ T, y < R
structure Fails (G : Nat → List Nat) (m : Ow) (R : Nat) (T T' : List Nat) : Prop where
  ok : TOk R T'
  sub : ∀ y ∈ T, y ∈ T'
  len : T.length ≤ T'.length
  own : ∀ y ∈ T', y ∉ T → ∃ z, oAt m y = some z ∧ ∀ y' ∈ G z, y' ∈ T'
theorem Fails.refl {G : Nat → List Nat} {m : Ow} {R : Nat} {T : List Nat} (h : TOk R T) : Fails G m R T T := ⟨h, fun _ m => m, Nat.le_refl _, fun y a b => absurd a b⟩
structure Augs (G : Nat → List Nat) (m : Ow) (T : List Nat) (x : Nat) (m' : Ow) : Prop where
  same : ∀ y ∈ T, oAt m' y = oAt m y
  new : ∃ y, y ∉ T ∧ oAt m' y = some x
  edge : ∀ y z, oAt m' y = some z → y ∈ G z
  stay : ∀ y z, oAt m y = some z → ∃ y', oAt m' y' = some z
  keys : ∀ y, oAt m y ≠ none → oAt m' y ≠ none
  vals : ∀ y z, y ∉ T → oAt m' y = some z → z = x ∨ ∃ y', y' ∉ T ∧ oAt m y' = some z
  inj : ∀ y y' z, y ∉ T → y' ∉ T → oAt m' y = some z → oAt m' y' = some z → y = y'
def OInj (m : Ow) : Prop := ∀ y y' z, oAt m y = some z → oAt m y' = some z → y = y'
def OClo (G : Nat → List Nat) (m : Ow) (B : Nat → Prop) : Prop := ∀ y, B y → ∃ z, oAt m y = some z ∧ ∀ y' ∈ G z, B y'
structure MOk (G : Nat → List Nat) (k : Nat) (m : Ow) : Prop where
  inj : OInj m
  edge : ∀ y z, oAt m y = some z → y ∈ G z
  low : ∀ y z, oAt m y = some z → z < k
  clo : ∃ B : Nat → Prop, OClo G m B ∧ ∀ x, x < k → (∃ y, oAt m y = some x) ∨ ∀ y ∈ G x, B y
end DC
namespace DC
open PySem L2 DL
end DC
namespace DC
open PySem L2 DL
theorem ag1 {fa : DL.Env → Out D} {ρ : DL.Env} {a : D} (ha : fa ρ = .ok a ρ) : dACons fa dANil ρ = .ok [.d a] ρ := by
  apply out_eq
  rw [w_ACons, ha, wo_ok, w_ANil]
  exact ⟨rfl, rfl⟩
theorem callE {F : List D → FR} {g : DL.Env → Out (List Ag)} {ρ : DL.Env} {ds : List D} {d : D} {k : Nat} (hg : g ρ = .ok (ds.map Ag.d) ρ) (hf : isFL ds = true) (hk : ds.length = k) (hF : F ds = .rt d none) : dCall k F g ρ = .ok d ρ := by
  apply out_eq
  rw [w_Call, hg, wo_ok]
  have e : agL (ds.map Ag.d) = some ds := by
    clear hg hf hk hF
    induction ds with
    | nil => rfl
    | cons a l ih => rw [List.map_cons, agL, ih]; rfl
  rw [e, so_some, frzL_isFL _ hf, hF]
  exact ⟨hk, rfl, rfl⟩
theorem call1 {F : List D → FR} {fa : DL.Env → Out D} {ρ : DL.Env} {a d : D} (ha : fa ρ = .ok a ρ) (h1 : isF a = true) (hF : F [a] = .rt d none) : dCall 1 F (dACons fa dANil) ρ = .ok d ρ := callE (ds := [a]) (ag1 ha) (by simp [isFL, h1]) rfl hF
theorem call2 {F : List D → FR} {fa fb : DL.Env → Out D} {ρ : DL.Env} {a b d : D} (ha : fa ρ = .ok a ρ) (hb : fb ρ = .ok b ρ) (h1 : isF a = true) (h2 : isF b = true) (hF : F [a, b] = .rt d none) : dCall 2 F (dACons fa (dACons fb dANil)) ρ = .ok d ρ := callE (ds := [a, b]) (ag2 ha hb) (by simp [isFL, h1, h2]) rfl hF
theorem cE {x : At} {ρ : DL.Env} : dC x ρ = .ok (.a x) ρ := rfl
theorem uE {g : D → Option D} {f : DL.Env → Out D} {ρ : DL.Env} {a d : D} (hf : f ρ = .ok a ρ) (h : ∀ P : D → Prop, SO (g a) P = P d) : dU g f ρ = .ok d ρ := by
  apply out_eq
  rw [w_U, hf, wo_ok, h]
  exact ⟨rfl, rfl⟩
theorem op2E {g : D → D → Option D} {f1 f2 : DL.Env → Out D} {ρ : DL.Env} {a b d : D} (h1 : f1 ρ = .ok a ρ) (h2 : f2 ρ = .ok b ρ) (h : ∀ P : D → Prop, SO (g a b) P = P d) : dOp2 g f1 f2 ρ = .ok d ρ := by
  apply out_eq
  rw [w_Op2, h1, wo_ok, h2, wo_ok, h]
  exact ⟨rfl, rfl⟩
theorem andVE {f g : DL.Env → Out D} {ρ : DL.Env} {a b : Bool} (hf : f ρ = .ok (.a (.bl a)) ρ) (hg : g ρ = .ok (.a (.bl b)) ρ) : dAndV f g ρ = .ok (.a (.bl (a && b))) ρ := by
  apply out_eq
  rw [w_AndV, hf, wo_ok, asB_bl]
  cases a with
  | true => rw [if_pos rfl, hg, wo_ok]; exact ⟨rfl, rfl⟩
  | false => rw [if_neg (by decide)]; exact ⟨rfl, rfl⟩
theorem eqNV {f g : DL.Env → Out D} {ρ : DL.Env} {a b : Nat} (hf : f ρ = .ok (natD a) ρ) (hg : g ρ = .ok (natD b) ρ) : dOp2 gEq f g ρ = .ok (.a (.bl (decide (a = b)))) ρ := by
  apply out_eq
  rw [w_Op2, hf, wo_ok, hg, wo_ok]
  simp [natD]
  omega
end DC
namespace DC
open PySem L2 DL
def OLow (n : Nat) (m : Ow) : Prop := ∀ y z, oAt m y = some z → z < n
end DC
set_option pp.maxSteps 1500
namespace DC
open PySem L2 DL
def mv (m : Ow) : Nat → Nat → Int
  | 0, _ => -1
  | k + 1, x => if oAt m k = some x then (k : Int) else mv m k x
theorem mv_cases {m : Ow} (hi : OInj m) : ∀ {k x : Nat}, (∃ y, y < k ∧ oAt m y = some x ∧ mv m k x = (y : Int)) ∨ ((∀ y, y < k → oAt m y ≠ some x) ∧ mv m k x = -1)
  | 0, x => .inr ⟨fun y h => absurd h (Nat.not_lt_zero y), rfl⟩
  | k + 1, x => by
    rw [mv]
    by_cases e : oAt m k = some x
    · rw [if_pos e]
      exact .inl ⟨k, Nat.lt_succ_self k, e, rfl⟩
    · rw [if_neg e]
      rcases mv_cases hi (k := k) (x := x) with ⟨y, h1, h2, h3⟩ | ⟨h1, h2⟩
      · exact .inl ⟨y, Nat.lt_succ_of_lt h1, h2, h3⟩
      · refine .inr ⟨fun y hy => ?_, h2⟩
        rcases Nat.lt_succ_iff_lt_or_eq.mp hy with q | q
        · exact h1 y q
        · subst q; exact e
end DC
set_option pp.maxSteps 1500
namespace DC
open PySem L2 DL
structure CovI (G : Nat → List Nat) (m : Ow) (n R : Nat) (B : Nat → Prop) (at' : Nat) (rs : List Nat) (F : Nat) : Prop where
  nd : rs.Nodup
  lt : ∀ x ∈ rs, x < n
  free : ∀ x, x < n → (∀ y, oAt m y ≠ some x) → x ∈ rs
  hit : ∀ x ∈ rs, (∀ y, oAt m y ≠ some x) ∨ ∃ y, F.testBit y = true ∧ oAt m y = some x
  done : ∀ i x, i < at' → rs[i]? = some x → ∀ y ∈ G x, F.testBit y = true
  own : ∀ y, F.testBit y = true → y < R ∧ ∃ x ∈ rs, oAt m y = some x
  bad : ∀ x ∈ rs, ∀ y ∈ G x, B y
end DC
set_option pp.maxSteps 1500
namespace DC
open PySem L2 DL
structure Cov (G : Nat → List Nat) (m : Ow) (n R : Nat) (rs : List Nat) (F : Nat) : Prop where
  nd : rs.Nodup
  lt : ∀ x ∈ rs, x < n
  free : ∀ x, x < n → (∀ y, oAt m y ≠ some x) → x ∈ rs
  hit : ∀ x ∈ rs, (∀ y, oAt m y ≠ some x) ∨ ∃ y, F.testBit y = true ∧ oAt m y = some x
  done : ∀ x ∈ rs, ∀ y ∈ G x, F.testBit y = true
  own : ∀ y, F.testBit y = true → y < R ∧ ∃ x ∈ rs, oAt m y = some x
end DC
namespace DC
open PySem L2 DL
theorem map_nodup {α β : Type} {f : α → β} : ∀ {l : List α}, l.Nodup → (∀ x ∈ l, ∀ y ∈ l, f x = f y → x = y) → (l.map f).Nodup
  | [], _, _ => List.nodup_nil
  | a :: l, h, hi => by
    have h' := List.nodup_cons.mp h
    rw [List.map_cons]
    refine List.nodup_cons.mpr ⟨fun m => ?_, map_nodup h'.2 fun x hx y hy => hi x (List.mem_cons_of_mem _ hx) y (List.mem_cons_of_mem _ hy)⟩
    obtain ⟨b, hb, e⟩ := List.mem_map.mp m
    have := hi a List.mem_cons_self b (List.mem_cons_of_mem _ hb) e.symm
    subst this
    exact h'.1 hb
theorem mv_of {m : Ow} {R : Nat} (hi : OInj m) (hr : ∀ y z, oAt m y = some z → y < R) {x y : Nat} (h : oAt m y = some x) : mv m R x = (y : Int) := by
  rcases mv_cases hi (k := R) (x := x) with ⟨y0, h1, h2, h3⟩ | ⟨h1, h2⟩
  · rw [h3, hi y0 y x h2 h]
  · exact absurd h (h1 y (hr y x h))
theorem mv_pos {m : Ow} {R : Nat} (hi : OInj m) {x : Nat} (h : 0 ≤ mv m R x) : ∃ y, y < R ∧ oAt m y = some x ∧ mv m R x = (y : Int) := by
  rcases mv_cases hi (k := R) (x := x) with q | ⟨h1, h2⟩
  · exact q
  · omega
end DC
namespace DC
open PySem L2 DL
end DC
namespace DC
open PySem L2 DL
section
variable {w : Str} {a b : D}
end
end DC
namespace DC
open PySem L2 DL
end DC
namespace DC
open PySem L2 DL
theorem cut_hi {xs : List D} {k : Nat} : cutD xs none (some (k : Int)) = xs.take k := by
  unfold cutD
  rw [HT.sIx_none, HT.sIx_nat, List.drop_zero, Nat.sub_zero]
  by_cases h : k ≤ xs.length
  · rw [Nat.min_eq_left h]
  · rw [Nat.min_eq_right (by omega), List.take_length, List.take_of_length_le (by omega)]
theorem catTE {f g : DL.Env → Out D} {ρ : DL.Env} {xs ys : List D} (hf : f ρ = .ok (.n .tup false xs) ρ) (hg : g ρ = .ok (.n .tup false ys) ρ) (h1 : isFL xs = true) (h2 : isFL ys = true) (hl : xs.length + ys.length ≤ 1000000) : dOp2 gAdd f g ρ = .ok (.n .tup false (xs ++ ys)) ρ :=
  op2E hf hg fun P => catT h1 h2 hl
theorem tup1 {fa : DL.Env → Out D} {ρ : DL.Env} {a : D} (ha : fa ρ = .ok a ρ) (za : isF a = true) : dTup (dACons fa dANil) ρ = .ok (.n .tup false [a]) ρ := by
  apply out_eq
  rw [w_Tup, ag1 ha, wo_ok]
  refine ⟨show 1 ≤ cap by decide, ?_, rfl⟩
  rw [frzL_isFL [a] (by rw [isFL_cons, za]; rfl)]
section
variable {f g : DL.Env → Out D} {ρ : DL.Env} {A B : List (List Nat)} {l m : List Nat} {k : Nat}
theorem catN (hf : f ρ = .ok (tupN l) ρ) (hg : g ρ = .ok (tupN m) ρ) (hl : l.length + m.length ≤ 1000000) : dOp2 gAdd f g ρ = .ok (tupN (l ++ m)) ρ := by
  have := catTE (xs := l.map natD) (ys := m.map natD) hf hg isFL_nat isFL_nat (by simpa using hl)
  rw [this]
  unfold tupN
  rw [List.map_append]
theorem oneP (hf : f ρ = .ok (tupN l) ρ) : dTup (dACons f dANil) ρ = .ok (parD [l]) ρ := tup1 hf isF_tupN
end
section
variable {n : Nat} {T : Tb} {r : Bool} {s : List Nat} {Ps : List (List Nat)}
end
end DC
namespace DC
open PySem L2 DL
namespace Lg
section
variable {n : Nat} {T : Tb} {r : Nat → Nat}
end
end Lg
structure PapOk (n : Nat) (T : Tb) (s : List Nat) (Ps : List (List Nat)) : Prop where
  s1 : ascN n 0 s = true
  s2 : fits T true s = true
  p1 : ∀ p ∈ Ps, ascN n 0 p = true
  p2 : ∀ p ∈ Ps, p ≠ []
  p3 : ∀ p ∈ Ps, fits T false p = true
  fl : Ps.flatten.Perm (List.range n)
  len : Ps.length = s.length
  bd : s.length ≤ n
section
variable {n : Nat} {T : Tb} {r : Nat → Nat}
end
section
variable {n : Nat} {T : Tb} {s : List Nat} {Ps : List (List Nat)}
theorem PapOk.lt (h : PapOk n T s Ps) : ∀ p ∈ Ps, ∀ x ∈ p, x < n := fun p hp => ascN_lt (h.p1 p hp)
end
end DC
namespace DC
open PySem L2 DL
def pO (m : Ow) (R x : Nat) : Option Nat := if 0 ≤ mv m R x then some (mv m R x).toNat else none
theorem pO_iff {m : Ow} {R x y : Nat} (hi : OInj m) (hr : ∀ y z, oAt m y = some z → y < R) : pO m R x = some y ↔ oAt m y = some x := by
  unfold pO
  constructor
  · intro h
    split at h
    · rename_i e
      cases h
      obtain ⟨y0, h1, h2, h3⟩ := mv_pos hi e
      rw [h3, Int.toNat_natCast]
      exact h2
    · cases h
  · intro h
    have := mv_of (R := R) hi hr h
    rw [this, if_pos (by omega), Int.toNat_natCast]
structure Chn (nx : Nat → Option Nat) (x : Nat) (c : List Nat) : Prop where
  hd : c[0]? = some x
  lk : ∀ i y z, c[i]? = some y → c[i + 1]? = some z → nx y = some z
  lst : ∀ i y, c[i]? = some y → i + 1 = c.length → nx y = none
section
variable {nx : Nat → Option Nat} {x : Nat} {c : List Nat}
theorem Chn.succ (h : Chn nx x c) {y z : Nat} (hz : z ∈ c) (e : nx z = some y) : y ∈ c := by
  obtain ⟨i, hi, e1⟩ := List.mem_iff_getElem.mp hz
  have hz' : c[i]? = some z := by rw [List.getElem?_eq_getElem hi, e1]
  by_cases hl : i + 1 = c.length
  · rw [h.lst i z hz' hl] at e
    cases e
  · have hy : c[i + 1]? = some (c[i + 1]'(by omega)) := List.getElem?_eq_getElem _
    have := h.lk i _ _ hz' hy
    rw [e] at this
    cases this
    exact List.mem_of_getElem? hy
theorem link_pw {n : Nat} {T : Tb} (tT : Tr n T) : ∀ {c : List Nat}, (∀ x ∈ c, x < n) → (∀ i y z : Nat, c[i]? = some y → c[i + 1]? = some z → T y z = true) → c.Pairwise fun a b => T a b = true
  | [], _, _ => .nil
  | [a], _, _ => List.pairwise_singleton _ _
  | a :: b :: c, hn, hl => by
    have ih := link_pw tT (c := b :: c) (fun x hx => hn x (List.mem_cons_of_mem _ hx)) fun i y z h1 h2 => hl (i + 1) y z (by simpa using h1) (by simpa using h2)
    have ab := hl 0 a b rfl rfl
    refine List.pairwise_cons.mpr ⟨fun y hy => ?_, ih⟩
    rcases List.mem_cons.mp hy with q | q
    · subst q; exact ab
    · exact tT a b y (hn a List.mem_cons_self) (hn b (by simp)) (hn y (by simp [q])) ab ((List.pairwise_cons.mp ih).1 y q)
end
theorem pw_any {T : Tb} {l : List Nat} (hp : l.Pairwise fun a b => T a b = true) : ∀ x ∈ l, ∀ y ∈ l, x = y ∨ T x y = true ∨ T y x = true := by
  induction hp with
  | nil => intro x hx; cases hx
  | cons h1 _ ih =>
    intro x hx y hy
    rcases List.mem_cons.mp hx with rfl | hx'
    · rcases List.mem_cons.mp hy with rfl | hy'
      · exact .inl rfl
      · exact .inr (.inl (h1 y hy'))
    · rcases List.mem_cons.mp hy with rfl | hy'
      · exact .inr (.inr (h1 x hx'))
      · exact ih x hx' y hy'
structure Chs (n : Nat) (T : Tb) (m : Ow) (Cs : List (List Nat)) : Prop where
  hds : Cs.map (fun c => c.getD 0 0) = (List.range n).filter fun x => (oAt m x).isNone
  ch : ∀ c ∈ Cs, ∃ x, Chn (pO m n) x c
  lt : ∀ c ∈ Cs, ∀ x ∈ c, x < n
section
variable {n : Nat} {T : Tb} {m : Ow} {Cs : List (List Nat)} {r : Nat → Nat}
theorem Chs.pw (h : Chs n T m Cs) (tT : Tr n T) (hi : OInj m) (hr : ∀ y z, oAt m y = some z → y < n) (he : ∀ y z, oAt m y = some z → T z y = true) {c : List Nat} (hc : c ∈ Cs) : c.Pairwise fun a b => T a b = true := by
  obtain ⟨x, hx⟩ := h.ch c hc
  exact link_pw tT (h.lt c hc) fun i y z h1 h2 => he z y ((pO_iff hi hr).mp (hx.lk i y z h1 h2))
theorem Chs.cover (h : Chs n T m Cs) (hs : RankS n T r) (hi : OInj m) (hr : ∀ y z, oAt m y = some z → y < n) (hl : OLow n m) (he : ∀ y z, oAt m y = some z → T z y = true) : ∀ (k y : Nat), r y < k → y < n → ∃ c ∈ Cs, y ∈ c
  | 0, y, hk, _ => absurd hk (Nat.not_lt_zero _)
  | k + 1, y, hk, hy => by
    cases e : oAt m y with
    | none =>
      have : y ∈ (List.range n).filter fun x => (oAt m x).isNone := List.mem_filter.mpr ⟨List.mem_range.mpr hy, by rw [e]; rfl⟩
      rw [← h.hds] at this
      obtain ⟨c, hc, ec⟩ := List.mem_map.mp this
      obtain ⟨x, hx⟩ := h.ch c hc
      rw [List.getD_eq_getElem?_getD, hx.hd] at ec
      have ec : x = y := ec
      subst ec
      exact ⟨c, hc, List.mem_of_getElem? hx.hd⟩
    | some z =>
      have hz := hl y z e
      have := hs.lt y z hy hz (he y z e)
      obtain ⟨c, hc, zc⟩ := Chs.cover h hs hi hr hl he k z (by omega) hz
      obtain ⟨x, hx⟩ := h.ch c hc
      exact ⟨c, hc, hx.succ zc ((pO_iff hi hr).mpr e)⟩
theorem Chs.nd (h : Chs n T m Cs) (tT : Tr n T) (iT : Irr n T) (hi : OInj m) (hr : ∀ y z, oAt m y = some z → y < n) (he : ∀ y z, oAt m y = some z → T z y = true) {c : List Nat} (hc : c ∈ Cs) : c.Nodup :=
  List.Pairwise.imp_of_mem (fun {a b} ha hb hT e => by
    subst e
    rw [iT a (h.lt c hc a ha)] at hT
    cases hT) (h.pw tT hi hr he hc)
theorem Chs.le (h : Chs n T m Cs) (tT : Tr n T) (hs : RankS n T r) (hi : OInj m) (hr : ∀ y z, oAt m y = some z → y < n) (hl : OLow n m) (he : ∀ y z, oAt m y = some z → T z y = true) {S : List Nat} (hS : ∀ x ∈ S, x < n) (nd : S.Nodup) (ha : ∀ x ∈ S, ∀ y ∈ S, T x y = false) : S.length ≤ Cs.length := by
  have cv : ∀ x ∈ S, ∃ c ∈ Cs, x ∈ c := fun x hx => h.cover hs hi hr hl he (r x + 1) x (Nat.lt_succ_self _) (hS x hx)
  have ix : ∀ x ∈ S, Cs.findIdx (fun c => decide (x ∈ c)) < Cs.length ∧ ∃ c, Cs[Cs.findIdx fun c => decide (x ∈ c)]? = some c ∧ c ∈ Cs ∧ x ∈ c := fun x hx => by
    obtain ⟨c, hc, xc⟩ := cv x hx
    have lt : Cs.findIdx (fun c => decide (x ∈ c)) < Cs.length := List.findIdx_lt_length_of_exists ⟨c, hc, by simpa using xc⟩
    refine ⟨lt, Cs[Cs.findIdx fun c => decide (x ∈ c)], List.getElem?_eq_getElem lt, List.getElem_mem lt, ?_⟩
    have := List.findIdx_getElem (xs := Cs) (p := fun c => decide (x ∈ c)) (w := lt)
    simpa using this
  have nd2 : (S.map fun x => Cs.findIdx fun c => decide (x ∈ c)).Nodup := by
    refine map_nodup nd fun x hx y hy e => ?_
    obtain ⟨_, c, c1, c2, c3⟩ := ix x hx
    obtain ⟨_, d, d1, d2, d3⟩ := ix y hy
    have e : Cs.findIdx (fun c => decide (x ∈ c)) = Cs.findIdx fun c => decide (y ∈ c) := e
    rw [e, d1] at c1
    cases c1
    rcases pw_any (h.pw tT hi hr he c2) x c3 y d3 with q | q | q
    · exact q
    · rw [ha x hx y hy] at q; cases q
    · rw [ha y hy x hx] at q; cases q
  have := nodup_lt nd2 fun i hi' => by
    obtain ⟨x, hx, e⟩ := List.mem_map.mp hi'
    have := (ix x hx).1
    rw [← e]
    exact this
  rwa [List.length_map] at this
end
end DC
set_option pp.maxSteps 1500
namespace DC
open PySem L2 DL
structure MOrd (n : Nat) (T : Tb) (m : Ow) : Prop where
  inj : OInj m
  rt : ∀ y z, oAt m y = some z → y < n
  low : OLow n m
  rel : ∀ y z, oAt m y = some z → T z y = true
end DC
set_option pp.maxSteps 1500
namespace DC
open PySem L2 DL
structure Und (n : Nat) (m : Ow) (x : Nat) (c : List Nat) : Prop where
  hd : c[0]? = some x
  lk : ∀ i y z, c[i]? = some y → c[i + 1]? = some z → pO m n y = some z
  lt : ∀ y ∈ c, y < n
theorem Und.len {n x : Nat} {T : Tb} {m : Ow} {c : List Nat} (h : Und n m x c) (tT : Tr n T) (iT : Irr n T) (o : MOrd n T m) : c.length ≤ n := by
  have pw := link_pw tT h.lt fun i y z h1 h2 => o.rel z y ((pO_iff o.inj o.rt).mp (h.lk i y z h1 h2))
  refine nodup_lt ?_ h.lt
  exact List.Pairwise.imp_of_mem (fun {a b} ha hb hT e => by
    subst e
    rw [iT a (h.lt a ha)] at hT
    cases hT) pw
end DC
namespace DC
open PySem L2 DL
structure PapW (n : Nat) (T : Tb) (s : List Nat) (Ps : List (List Nat)) : Prop where
  s1 : ascN n 0 s = true
  s2 : fits T false s = true
  p1 : ∀ p ∈ Ps, ascN n 0 p = true
  p2 : ∀ p ∈ Ps, p ≠ []
  p3 : ∀ p ∈ Ps, fits T true p = true
  fl : Ps.flatten.Perm (List.range n)
  len : Ps.length = s.length
  bd : s.length ≤ n
end DC
namespace DC
open PySem L2 DL
theorem wo_take {E : Exn → DL.Env → Prop} {P : D → DL.Env → Prop} {ρ : DL.Env} {i n : Nat} {st : D} {f : DL.Env → Out D} (hi : ρ[i]? = some (some st)) (h : Stt st) (hf : f ρ = .ok (natD n) ρ) (hn : 0 < n) (hn2 : n < 1000000) (q : ∀ (st' : D) (v : Nat), Stt st' → v < n → P (natD v) (ρ.set i (some st'))) : WO E P (dCallL 2 (some 0) F_law_take (dALent i (dACons f dANil)) ρ) := by
  rw [w_CallL, w_ALent, hi, so_some, so_some, w_ACons, hf, wo_ok, w_ANil]
  have e : ∀ P : List D × Nat × List D → Prop, SO (agL1 [Ag.s i, Ag.d (natD n)]) P = P ([], i, [natD n]) := fun P => rfl
  rw [e]
  dsimp only
  rw [hi, so_some, so_some]
  refine ⟨⟨rfl, rfl⟩, ?_⟩
  have hz : frzL ([] : List D) ++ st :: frzL [natD n] = [st, .int (n : Int)] := rfl
  rw [hz]
  refine (take_wf h (n : Int) (by omega) (by omega)).mono ?_
  rintro d io ⟨v, rfl, v0, v1, st', rfl, h2⟩
  obtain ⟨v, rfl⟩ := Int.eq_ofNat_of_zero_le v0
  rw [so_some]
  exact q st' v h2 (by omega)
section
variable {n : Nat} {T : Tb} {s : List Nat} {Ps : List (List Nat)}
theorem PapW.lt (h : PapW n T s Ps) : ∀ p ∈ Ps, ∀ x ∈ p, x < n := fun p hp => ascN_lt (h.p1 p hp)
end
end DC
set_option pp.maxSteps 1500
namespace DC
open PySem L2 DL
def oD : Option Nat → D
  | none => .a (.int (-1))
  | some y => natD y
end DC
set_option pp.maxSteps 1500
namespace DC
open PySem L2 DL
def SB (s : List Nat) : Prop := s.length ≤ 50 ∧ ∀ x ∈ s, x < 50
def PB (Ps : List (List Nat)) : Prop := Ps.length ≤ 50 ∧ ∀ p ∈ Ps, SB p
end DC
set_option pp.maxSteps 1500
namespace DC
open PySem L2 DL
end DC
set_option pp.maxSteps 1500
namespace DC
open PySem L2 DL
theorem wo_exx {α : Type} {P : α → DL.Env → Prop} {o : Out α} (h : WO NoE P o) : ∃ d ρ, o = .ok d ρ ∧ P d ρ := by
  cases o with
  | ok d ρ => exact ⟨d, ρ, rfl, h⟩
  | ex e ρ => exact h.elim
  | st => exact h.elim
theorem take_ex {ρ : DL.Env} {i n : Nat} {st : D} {f : DL.Env → Out D} (hi : ρ[i]? = some (some st)) (h : Stt st) (hf : f ρ = .ok (natD n) ρ) (hn : 0 < n) (hn2 : n < 1000000) : ∃ st' v, dCallL 2 (some 0) F_law_take (dALent i (dACons f dANil)) ρ = .ok (natD v) (ρ.set i (some st')) ∧ Stt st' ∧ v < n := by
  obtain ⟨d, ρ', e, st', v, rfl, rfl, h1, h2⟩ := wo_exx (wo_take (P := fun d ρ' => ∃ st' v, d = natD v ∧ ρ' = ρ.set i (some st') ∧ Stt st' ∧ v < n) hi h hf hn hn2 fun st' v h1 h2 => ⟨st', v, rfl, rfl, h1, h2⟩)
  exact ⟨st', v, e, h1, h2⟩
def SBk (k : Nat) (s : List Nat) : Prop := s.length ≤ k ∧ ∀ x ∈ s, x < 50
def PBk (k : Nat) (Ps : List (List Nat)) : Prop := Ps.length ≤ 50 ∧ ∀ p ∈ Ps, SBk k p
theorem SBk.mono {k m : Nat} {s : List Nat} (h : SBk k s) (hk : k ≤ m) : SBk m s := ⟨Nat.le_trans h.1 hk, h.2⟩
theorem PBk.mono {k m : Nat} {Ps : List (List Nat)} (h : PBk k Ps) (hk : k ≤ m) : PBk m Ps := ⟨h.1, fun p hp => (h.2 p hp).mono hk⟩
end DC
set_option pp.maxSteps 1500
namespace DC
open PySem L2 DL
end DC
namespace DC
open PySem L2 DL
end DC
set_option pp.maxSteps 1500
namespace DC
open PySem L2 DL
theorem nfr : ¬ ("related" : Str) = "n" ∧ ¬ ("related" : Str) = "above" := by decide +kernel
end DC
set_option pp.maxSteps 1500
namespace DC
open PySem L2 DL
end DC
set_option pp.maxSteps 1500
namespace DC
open PySem L2 DL
theorem wo_ofB {E : Exn → DL.Env → Prop} {P : Bool → DL.Env → Prop} {o : Out Bool} {x : Bool} {ρ : DL.Env} (h : o = .ok x ρ) (k : P x ρ) : WO E P o := by
  rw [h]; exact k
end DC
set_option pp.maxSteps 1500
namespace DC
open PySem L2 DL
end DC
set_option pp.maxSteps 1500
namespace DC
open PySem L2 DL
end DC
set_option pp.maxSteps 1500
namespace DC
open PySem L2 DL
end DC
set_option pp.maxSteps 1500
namespace DC
open PySem L2 DL
end DC
namespace DC
open PySem L2 DL
def B_is_failure : DL.Env → Fl :=
  (dSeq (dIf (dOrT (dNotT (dB (dU (gIsi "tuple") (dVar 2)))) (dB (dOp2 gNe (dU gLen (dVar 2)) (dC (.int 3))))) (dBind (dC (.bl false)) fun d ρ => .rt d ρ) dNext)
  (dSeq (dFor (dIter (dVar 2)) (tg1 3) (dIf (dOrT (dNotT (dB (dCall 1 F_is_integer (dACons (dVar 3) dANil)))) (dOrT (dB (dOp2 gLt (dVar 3) (dC (.int 0)))) (dB (dOp2 gGe (dVar 3) (dVar 1))))) (dBind (dC (.bl false)) fun d ρ => .rt d ρ) dNext))
  (dSeq (dBind (dFz (dVar 2)) (stTg (tgT [3, 4, 5])))
  (dSeq (dBind (dMeth "Lattice" "met" 2 F_Lattice_met (dVar 0) (dACons (dVar 3) (dACons (dMeth "Lattice" "joined" 2 F_Lattice_joined (dVar 0) (dACons (dVar 4) (dACons (dVar 5) dANil))) dANil))) (stSet 6))
  (dBind (dOp2 gNe (dVar 6) (dMeth "Lattice" "joined" 2 F_Lattice_joined (dVar 0) (dACons (dMeth "Lattice" "met" 2 F_Lattice_met (dVar 0) (dACons (dVar 3) (dACons (dVar 4) dANil))) (dACons (dMeth "Lattice" "met" 2 F_Lattice_met (dVar 0) (dACons (dVar 3) (dACons (dVar 5) dANil))) dANil)))) fun d ρ => .rt d ρ)))))
def F_is_failure : List D → FR := fnD 7 none B_is_failure
def B_takes_lattice : DL.Env → Fl :=
  (dSeq (dIf (dOrT (dNotT (dB (dU (gIsi "tuple") (dVar 1)))) (dB (dOp2 gLt (dU gLen (dVar 1)) (dC (.int 2))))) (dBind (dC (.bl false)) fun d ρ => .rt d ρ) dNext)
  (dSeq (dBind (dU (gLenO "Lattice" F_LatticeU_lenU) (dVar 0)) (stSet 2))
  (dSeq (dIf (dB (dOp2 gEq (dOp2 gIx (dVar 1) (dC (.int 0))) (dC (.str "failure")))) (dBind (dAndV (dOp2 gEq (dU gLen (dVar 1)) (dC (.int 2))) (dCall 3 F_is_failure (dACons (dVar 0) (dACons (dVar 2) (dACons (dOp2 gIx (dVar 1) (dC (.int 1))) dANil))))) fun d ρ => .rt d ρ) dNext)
  (dSeq (dIf (dOrT (dB (dOp2 gNe (dOp2 gIx (dVar 1) (dC (.int 0))) (dC (.str "lower")))) (dOrT (dB (dOp2 gNe (dU gLen (dVar 1)) (dC (.int 3)))) (dOrT (dNotT (dB (dCall 1 F_is_integer (dACons (dOp2 gIx (dVar 1) (dC (.int 1))) dANil)))) (dB (dOp2 gLt (dOp2 gIx (dVar 1) (dC (.int 1))) (dC (.int 0))))))) (dBind (dC (.bl false)) fun d ρ => .rt d ρ) dNext)
  (dSeq (dBind (dOp2 gIx (dVar 1) (dC (.int 2))) (stSet 3))
  (dSeq (dIf (dOrT (dNotT (dB (dU (gIsi "tuple") (dVar 3)))) (dB (dOp2 gNe (dU gLen (dVar 3)) (dVar 2)))) (dBind (dC (.bl false)) fun d ρ => .rt d ρ) dNext)
  (dSeq (dFor (dRng1 (dVar 2)) (tg1 4) (dIf (dOrT (dNotT (dB (dCall 1 F_is_integer (dACons (dOp2 gIx (dVar 3) (dVar 4)) dANil)))) (dOrT (dB (dOp2 gLt (dOp2 gIx (dVar 3) (dVar 4)) (dC (.int 0)))) (dOrT (dB (dOp2 gGt (dU gBits (dOp2 gIx (dVar 3) (dVar 4))) (dOp2 gIx (dVar 1) (dC (.int 1))))) (dB (dOp2 gIn (dOp2 gIx (dVar 3) (dVar 4)) (dSl (dVar 3) none (some (dVar 4)))))))) (dBind (dC (.bl false)) fun d ρ => .rt d ρ) dNext))
  (dSeq (dFor (dRng1 (dVar 2)) (tg1 5) (dFor (dRng1 (dVar 2)) (tg1 6) (dSeq (dIf (dB (dOp2 gNe (dOp2 gIx (dVar 3) (dMeth "Lattice" "joined" 2 F_Lattice_joined (dVar 0) (dACons (dVar 5) (dACons (dVar 6) dANil)))) (dOp2 gOrB (dOp2 gIx (dVar 3) (dVar 5)) (dOp2 gIx (dVar 3) (dVar 6))))) (dBind (dC (.bl false)) fun d ρ => .rt d ρ) dNext)
  (dIf (dB (dOp2 gNe (dOp2 gIx (dVar 3) (dMeth "Lattice" "met" 2 F_Lattice_met (dVar 0) (dACons (dVar 5) (dACons (dVar 6) dANil)))) (dOp2 gAnd (dOp2 gIx (dVar 3) (dVar 5)) (dOp2 gIx (dVar 3) (dVar 6))))) (dBind (dC (.bl false)) fun d ρ => .rt d ρ) dNext))))
  (dBind (dC (.bl true)) fun d ρ => .rt d ρ)))))))))
def F_takes_lattice : List D → FR := fnD 7 none B_takes_lattice
end DC
set_option pp.maxSteps 1500
namespace DC
open PySem L2 DL
end DC
set_option pp.maxSteps 1500
namespace DC
open PySem L2 DL
structure MFam (L : List Nat) : Prop where
  nd : L.Nodup
  lt : ∀ a ∈ L, a < 16
  cl : ∀ a ∈ L, ∀ b ∈ L, a &&& b ∈ L
  tp : ∃ t ∈ L, ∀ a ∈ L, a &&& t = a
end DC
set_option pp.maxSteps 1500
namespace DC
open PySem L2 DL
end DC
set_option pp.maxSteps 1500
namespace DC
open PySem L2 DL
structure FInv (m : Nat) (F : List Nat) : Prop where
  nd : F.Nodup
  lt : ∀ a ∈ F, a < 2 ^ m
  cl : ∀ a ∈ F, ∀ b ∈ F, a &&& b ∈ F
  tp : 2 ^ m - 1 ∈ F
end DC
set_option pp.maxSteps 1500
namespace DC
open PySem L2 DL
end DC
set_option pp.maxSteps 1500
namespace DC
open PySem L2 DL
theorem agN {ρ : DL.Env} : dANil ρ = .ok (([] : List D).map Ag.d) ρ := rfl
theorem agC {fa : DL.Env → Out D} {g : DL.Env → Out (List Ag)} {ρ : DL.Env} {a : D} {ds : List D} (ha : fa ρ = .ok a ρ) (hg : g ρ = .ok (ds.map Ag.d) ρ) : dACons fa g ρ = .ok ((a :: ds).map Ag.d) ρ := by
  apply out_eq
  rw [w_ACons, ha, wo_ok, hg, wo_ok]
  exact ⟨rfl, rfl⟩
theorem agL_map (ds : List D) : agL (ds.map Ag.d) = some ds := by
  induction ds with
  | nil => rfl
  | cons a l ih => rw [List.map_cons, agL, ih]; rfl
theorem lstG {g : DL.Env → Out (List Ag)} {ρ : DL.Env} {ds : List D} (hg : g ρ = .ok (ds.map Ag.d) ρ) (hl : ds.length ≤ 1000) : dLst g ρ = .ok (.lst true ds) ρ := by
  apply out_eq
  rw [w_Lst, hg, wo_ok, agL_map, so_some]
  exact ⟨Nat.le_trans hl (by decide), rfl, rfl⟩
end DC
namespace DC
open PySem L2 DL
end DC
namespace DC
open PySem L2 DL
end DC
namespace DC
open PySem L2 DL
end DC
namespace DC
open PySem L2 DL
structure Ren (n : Nat) (r g : Nat → Nat) : Prop where
  fr : ∀ x, x < n → r x < n ∧ g (r x) = x
  fg : ∀ a, a < n → g a < n ∧ r (g a) = a
end DC
namespace DC
open PySem L2 DL
structure Fnd (n : Nat) (T : Tb) (F : List (List Nat)) : Prop where
  nd : F.Nodup
  pt : ∀ p ∈ F, p.length = n ∧ Pt n (itL p) ∧ Con n T (itL p)
end DC
namespace DC
open PySem L2 DL
end DC
namespace DC
open PySem L2 DL
abbrev Tri : Type := Nat × Nat × Nat
def rowT (n x y : Nat) : List Tri := (List.range n).map fun z => (x, y, z)
def plaT (n x : Nat) : List Tri := (List.range n).flatMap (rowT n x)
def ff (n : Nat) (p : Tri → Bool) : Option Tri := ((List.range n).flatMap (plaT n)).find? p
section
variable {n : Nat} {T : Tb}
end
end DC
namespace DC
open PySem L2 DL
end DC
namespace DC
open PySem L2 DL
section
variable {n m : Nat} {T S : Tb} (hm : 0 < m) (tT : Tr n T) (iT : Irr n T) (tS : Tr m S) (iS : Irr m S)
include hm in
include hm in
include hm tT iT tS iS in
include hm in
include hm in
include hm tT iT tS iS in
include hm tT iT tS iS in
include hm tT iT tS iS in
end
end DC
namespace DC
open PySem L2 DL
end DC
namespace DC
open PySem L2 DL
end DC
namespace DC
open PySem L2 DL
theorem refused_eq {n : Nat} (h : 9 ≤ n ∧ n ≤ 14) : F_law_refused_v2 [natD n] = .rt (.a (.bl true)) none := by
  have : n = 9 ∨ n = 10 ∨ n = 11 ∨ n = 12 ∨ n = 13 ∨ n = 14 := by omega
  rcases this with rfl | rfl | rfl | rfl | rfl | rfl <;> kernel_rfl
end DC
namespace DC
open PySem L2 DL
end DC
namespace DC
open PySem L2 DL
theorem ix_any {k : Kd} (hk : k = .lst ∨ k = .tup) {xs : List D} {i : Nat} {x : D} {P : D → Prop} (h : xs[i]? = some x) (hf : isF x = true) : SO (gIx (.n k false xs) (.a (.int (i : Int)))) P = P x := by
  rcases hk with rfl | rfl
  · unfold gIx
    rw [ixL h]
    simp [hf]
  · unfold gIx
    rw [ixT h]
    simp [hf]
end DC
namespace DC
open PySem L2 DL
theorem callZ {F : List D → FR} {g : DL.Env → Out (List Ag)} {ρ : DL.Env} {ds : List D} {d : D} {k : Nat} (hg : g ρ = .ok (ds.map Ag.d) ρ) (hk : ds.length = k) (hF : F (frzL ds) = .rt d none) : dCall k F g ρ = .ok d ρ := by
  apply out_eq
  rw [w_Call, hg, wo_ok]
  have e : agL (ds.map Ag.d) = some ds := by
    clear hg hk hF
    induction ds with
    | nil => rfl
    | cons a l ih => rw [List.map_cons, agL, ih]; rfl
  rw [e, so_some, hF]
  exact ⟨hk, rfl, rfl⟩
theorem gtN1 {a b : Nat} {P : D → Prop} : SO (gGt (natD a) (natD b)) P = P (.a (.bl (decide (b < a)))) := by simp [natD]
theorem ltN {a b : Nat} {P : D → Prop} : SO (gLt (natD a) (natD b)) P = P (.a (.bl (decide (a < b)))) := by simp [natD]
theorem gtE {f g : DL.Env → Out D} {ρ : DL.Env} {a b : Nat} (hf : f ρ = .ok (natD a) ρ) (hg : g ρ = .ok (natD b) ρ) : dB (dOp2 gGt f g) ρ = .ok (decide (b < a)) ρ := bE (op2E hf hg fun P => gtN1)
section
variable {n : Nat} {T : Tb}
end
end DC
namespace DC
open PySem L2 DL
end DC
namespace DC
open PySem L2 DL
end DC
namespace DC
open PySem L2 DL
section
variable {n : Nat} {T : Tb} (tT : Tr n T) (iT : Irr n T) (L : IsLat n T)
include tT iT L
end
section
variable {n : Nat} {T : Tb} {c : Nat → Nat} (tT : Tr n T) (iT : Irr n T) (L : IsLat n T) (hp : Pt n c) (hc : Con n T c)
include tT iT L hp hc
end
end DC
namespace DC
open PySem L2 DL
def chs' (n : Nat) (T : Tb) : List Nat := (List.range n).filter (ji n T)
def cat (n : Nat) (T : Tb) (i : Nat) : Nat := (chs' n T).getD i 0
section
variable {n : Nat} {T : Tb} (tT : Tr n T) (iT : Irr n T) (L : IsLat n T)
include tT iT L
variable (hd : ∀ x y z, x < n → y < n → z < n → mt n T x (jn n T y z) = jn n T (mt n T x y) (mt n T x z))
include hd
end
end DC
set_option pp.maxSteps 1500
namespace DC
open PySem L2 DL
end DC
set_option pp.maxSteps 1500
namespace DC
open PySem L2 DL
variable {n : Nat} {T : Tb}
theorem lcE {ρ : DL.Env} {v : Nat} {l : List Nat} {src : DL.Env → Out (List D)} {t : DL.Env → Out Bool} (tb : Nat → Bool) (hv : ∀ d, ρ[v]? = some (some d) → isF d = true) (hl : v < ρ.length) (hs : src ρ = .ok (l.map natD) ρ) (hc : l.length ≤ 1000) (ht : ∀ x ∈ l, t (ρ.set v (some (natD x))) = .ok (tb x) (ρ.set v (some (natD x)))) :
    dLc [v] src (tg1 v) t (dVar v) ρ = .ok (.n .lst true ((l.filter tb).map natD)) ρ := by
  apply out_eq
  refine w_lcNF tb natD hv hl hs (by omega) ht (fun x hx _ => var_eq (get_set_self hl) rfl) ⟨rfl, rfl⟩
theorem lenL {f : DL.Env → Out D} {ρ : DL.Env} {o : Bool} {l : List Nat} (hf : f ρ = .ok (.n .lst o (l.map natD)) ρ) : dU gLen f ρ = .ok (natD l.length) ρ := uE hf fun P => by
  show P (.a (.int (l.map natD).length)) = _
  rw [List.length_map]
  rfl
end DC
set_option pp.maxSteps 1500
namespace DC
open PySem L2 DL
section
variable {n : Nat} {T : Tb} (hn : n ≤ 60) (tT : Tr n T) (iT : Irr n T) (L : IsLat n T)
include hn tT iT L
end
end DC
set_option pp.maxSteps 1500
namespace DC
open PySem L2 DL
section
variable {n : Nat} {T : Tb} (tT : Tr n T) (iT : Irr n T) (L : IsLat n T) (hd : ∀ x y z, x < n → y < n → z < n → mt n T x (jn n T y z) = jn n T (mt n T x y) (mt n T x z))
include tT iT L
include hd
end
end DC
set_option pp.maxSteps 1500
namespace DC
open PySem L2 DL
section
variable {n : Nat} {T : Tb} (hn : n ≤ 30) (tT : Tr n T) (iT : Irr n T) (L : IsLat n T)
include hn tT iT L
end
end DC
set_option pp.maxSteps 1500
namespace DC
open PySem L2 DL
abbrev retF : DL.Env → Fl := dBind (dC (.bl false)) fun d ρ => .rt d ρ
theorem set_set {ρ : DL.Env} {v : Nat} {o1 o2 : Option D} : (ρ.set v o1).set v o2 = ρ.set v o2 := by
  rw [List.set_set]
theorem forRet {Q : Ps} {ρ : DL.Env} {v : Nat} {src : DL.Env → Out (List D)} {cond : DL.Env → Out Bool} {ds : List D} (c : Nat → Bool) (hv : v < ρ.length) (hs : src ρ = .ok ds ρ)
    (hc : ∀ i d, ds[i]? = some d → (∀ j, j < i → c j = false) → cond (ρ.set v (some d)) = .ok (c i) (ρ.set v (some d)))
    (hr : ∀ i ρ', i < ds.length → c i = true → Q.rt (.a (.bl false)) ρ') (hk : (∀ i, i < ds.length → c i = false) → ∀ o, Q.nx (ρ.set v o)) : WP Q (dFor src (tg1 v) (dIf cond retF dNext) ρ) := by
  rw [p_For, hs, wo_ok]
  obtain ⟨o0, ho⟩ : ∃ o, ρ[v]? = some o := ⟨_, List.getElem?_eq_getElem hv⟩
  refine wp_forK (fun i ρ' => (∃ o, ρ' = ρ.set v o) ∧ ∀ j, j < i → c j = false) ⟨⟨o0, (set_same ho).symm⟩, fun j h => absurd h (by omega)⟩ ?_ ?_
  · rintro i d _ hd ⟨⟨o, rfl⟩, hp⟩ J hJ
    rw [s_tg1]
    refine ⟨by simpa using hv, ?_⟩
    rw [set_set, p_If]
    refine wo_ofB (hc i d hd hp) ?_
    cases q : c i with
    | true =>
      rw [if_pos rfl, p_Bind]
      exact wo_of cE (hr i _ (List.getElem?_eq_some_iff.mp hd).1 q)
    | false =>
      rw [if_neg (by decide), p_Next]
      refine hJ _ ⟨⟨_, rfl⟩, fun j hj => ?_⟩
      by_cases e : j = i
      · rw [e]; exact q
      · exact hp j (by omega)
  · rintro _ ⟨⟨o, rfl⟩, hp⟩
    exact hk hp o
theorem lenT {ρ : DL.Env} {f : DL.Env → Out D} {xs : List D} (hf : f ρ = .ok (.n .tup false xs) ρ) : dU gLen f ρ = .ok (natD xs.length) ρ := uE hf fun P => by simp [natD]
theorem ixTP {ρ : DL.Env} {f g : DL.Env → Out D} {xs : List D} {i : Nat} {d : D} (hf : f ρ = .ok (.n .tup false xs) ρ) (hg : g ρ = .ok (natD i) ρ) (hi : xs[i]? = some d) (hd : isF d = true) : dOp2 gIx f g ρ = .ok d ρ := op2E hf hg fun P => ix_any (.inr rfl) hi hd
section
variable {n : Nat} {T : Tb}
variable (tT : Tr n T) (iT : Irr n T) (L : IsLat n T)
include tT iT L
end
end DC
set_option pp.maxSteps 1500
namespace DC
open PySem L2 DL
section
variable {n : Nat} {T : Tb} (hn : n ≤ 60)
include hn
end
end DC
set_option pp.maxSteps 1500
namespace DC
open PySem L2 DL
section
variable {n : Nat} {T : Tb} (hn : n ≤ 60) (tT : Tr n T) (iT : Irr n T) (L : IsLat n T)
include tT iT L
include hn
end
end DC
set_option pp.maxSteps 1500
namespace DC
open PySem L2 DL
def BadL (n : Nat) (T : Tb) (d : D) : Prop := isF d = true ∧ F_takes_lattice [latD false n T, d] = .rt (.a (.bl false)) none
def AllBad (n : Nat) (T : Tb) (m : Nat) (xs : List D) : Prop := (∀ d ∈ xs, BadL n T d) ∧ xs.length ≤ m
theorem AllBad.fl {n m : Nat} {T : Tb} {xs : List D} (h : AllBad n T m xs) : isFL xs = true := isFL_all.mpr fun d hd => (h.1 d hd).1
section
variable {n : Nat} {T : Tb} (hn : n ≤ 60) (h0 : 0 < n)
include hn
end
end DC
set_option pp.maxSteps 1500
namespace DC
open PySem L2 DL
end DC
namespace DC
open PySem L2 DL
end DC
set_option pp.maxSteps 1500
namespace DC
open PySem L2 DL
end DC
set_option pp.maxSteps 1500
namespace DC
open PySem L2 DL
section
variable {n : Nat} {T : Tb}
end
end DC
set_option pp.maxSteps 1500
namespace DC
open PySem L2 DL
section
variable {n : Nat} {T : Tb}
end
end DC
set_option pp.maxSteps 1500
namespace DC
open PySem L2 DL
section
variable {n : Nat} {T : Tb} (hn : n ≤ 60) (tT : Tr n T) (iT : Irr n T) (L : IsLat n T)
include hn tT iT L
end
end DC
set_option pp.maxSteps 1500
namespace DC
open PySem L2 DL
theorem neBE {f g : DL.Env → Out D} {ρ : DL.Env} {a b : Bool} (hf : f ρ = .ok (.a (.bl a)) ρ) (hg : g ρ = .ok (.a (.bl b)) ρ) : dB (dOp2 gNe f g) ρ = .ok (!decide (a = b)) ρ := bE (op2E hf hg fun P => o_neB)
section
variable {n m : Nat} {T S : Tb}
end
end DC
set_option pp.maxSteps 1500
namespace DC
open PySem L2 DL
section
variable {n m : Nat} {T S : Tb}
end
end DC
set_option pp.maxSteps 1500
namespace DC
open PySem L2 DL
end DC
set_option pp.maxSteps 1500
namespace DC
open PySem L2 DL
section
variable {n m : Nat} {T S : Tb}
end
end DC
set_option pp.maxSteps 1500
namespace DC
open PySem L2 DL
section
variable {n : Nat} {T : Tb} (hn : n ≤ 60)
include hn
end
end DC
set_option pp.maxSteps 1500
namespace DC
open PySem L2 DL
section
variable {n : Nat} {T : Tb} (hn : n ≤ 60)
include hn
end
end DC
set_option pp.maxSteps 1500
namespace DC
open PySem L2 DL
section
variable {n : Nat} {T : Tb} (hn : n ≤ 60)
include hn
end
end DC
set_option pp.maxSteps 1500
namespace DC
open PySem L2 DL
def twB (n : Nat) (T : Tb) (y x : Nat) : Bool := (List.range n).all fun z => decide (T z y = T z x) && decide (T y z = T x z)
def rI (T : Tb) (h : List Nat) (x : Nat) : Nat := mask h.length fun j => T (itL h j) x
structure LinX (n : Nat) (T : Tb) (h : List Nat) : Prop where
  pm : Pm n h
  cl : ∀ k, k < n → ∀ y, y < n → T y (itL h k) = true → y ∈ h.take k
structure Iso (n : Nat) (T S : Tb) (p q : Nat → Nat) : Prop where
  pl : ∀ a, a < n → p a < n
  ql : ∀ a, a < n → q a < n
  qp : ∀ a, a < n → q (p a) = a
  pq : ∀ a, a < n → p (q a) = a
  ev : ∀ a b, a < n → b < n → T a b = S (p a) (p b)
theorem Iso.symm {n : Nat} {T S : Tb} {p q : Nat → Nat} (I : Iso n T S p q) : Iso n S T q p := ⟨I.ql, I.pl, I.pq, I.qp, fun a b ha hb => by rw [I.ev _ _ (I.ql a ha) (I.ql b hb), I.pq a ha, I.pq b hb]⟩
def sw (x y : Nat) : Nat → Nat := fun a => if a = x then y else if a = y then x else a
structure Hd (n : Nat) (T : Tb) (k : Nat) (h : List Nat) : Prop where
  len : h.length = k
  nd : h.Nodup
  lt : ∀ x ∈ h, x < n
  cl : ∀ j, j < k → ∀ y, y < n → T y (itL h j) = true → y ∈ h.take j
end DC
set_option pp.maxSteps 1500
namespace DC
open PySem L2 DL
def kp (n : Nat) (T : Tb) (x : Nat) : Nat × Nat := (mask n (fun z => T z x), mask n (T x))
def cls (n : Nat) (T : Tb) (m r : Nat) : List Nat := (List.range m).filter fun y => twB n T y r
section
variable {n : Nat} {T : Tb} (hn : n ≤ 60)
include hn
end
end DC
set_option pp.maxSteps 1500
namespace DC
open PySem L2 DL
section
variable {n : Nat} {T : Tb} (hn : n ≤ 60)
include hn
end
end DC
set_option pp.maxSteps 1500
namespace DC
open PySem L2 DL
section
variable {n : Nat} {T : Tb} (hn : n ≤ 60) (tT : Tr n T) (iT : Irr n T)
include hn tT iT
end
end DC
set_option pp.maxSteps 1500
namespace DC
open PySem L2 DL
section
variable {n : Nat} {T : Tb} (hn : n ≤ 4) (tT : Tr n T) (iT : Irr n T)
include hn tT iT
end
end DC
set_option pp.maxSteps 1500
namespace DC
open PySem L2 DL
structure PM (n k : Nat) (T S : Tb) (f : List Nat) : Prop where
  len : f.length = k
  lt : ∀ y ∈ f, y < n
  nd : f.Nodup
  ev : ∀ x z, x < k → z < k → T x z = S (itL f x) (itL f z)
end DC
set_option pp.maxSteps 1500
namespace DC
open PySem L2 DL
end DC
set_option pp.maxSteps 1500
namespace DC
open PySem L2 DL
end DC
set_option pp.maxSteps 1500
namespace DC
open PySem L2 DL
end DC
set_option pp.maxSteps 1500
namespace DC
open PySem L2 DL
section
variable {n m : Nat} {T S : Tb}
end
end DC
set_option pp.maxSteps 1500
namespace DC
open PySem L2 DL
end DC
set_option pp.maxSteps 1500
namespace DC
open PySem L2 DL
end DC
set_option pp.maxSteps 1500
namespace DC
open PySem L2 DL
section
variable {n m : Nat} {T S : Tb}
end
end DC
set_option pp.maxSteps 1500
namespace DC
open PySem L2 DL
end DC
set_option pp.maxSteps 1500
namespace DC
open PySem L2 DL
def oT (n : Nat) (S : Tb) : D := .n .lst true (vec n (brow true n S))
end DC
set_option pp.maxSteps 1500
namespace DC
open PySem L2 DL
section
variable {n : Nat} {S : Tb}
end
end DC
namespace G00
open PySem L2 DL
def B_law_members : DL.Env → Fl :=
  (dSeq (dBind (dLst dANil) (stSet 1))
  (dSeq (dBind (dC (.int 0)) (stSet 2))
  (dSeq (dFrz 1 (whL (dB (dOp2 gGt (dVar 0) (dC (.int 0)))) (dSeq (dIf (dB (dOp2 gEq (dOp2 gMod (dU gInt (dVar 0)) (dC (.int 2))) (dC (.int 1)))) (dHas 1 (dBind (dVar 2) (stApp 1))) dNext)
  (dSeq (dBind (dOp2 gFdiv (dVar 0) (dC (.int 2))) (stSet 0))
  (dBind (dOp2 gAdd (dVar 2) (dC (.int 1))) (stSet 2)))) 100000))
  (dBind (dVar 1) fun d ρ => .rt d ρ))))
def F_law_members : List D → FR := fnD 3 none B_law_members
def B_lowest : DL.Env → Fl :=
  (dSeq (dIf (dB (dOp2 gEq (dVar 0) (dC (.int 0)))) (dBind (dC (.str "empty")) (stRaise "Refused" "reason" DL.okStr)) dNext)
  (dBind (dOp2 gIx (dCall 1 DC.F_members (dACons (dVar 0) dANil)) (dC (.int 0))) fun d ρ => .rt d ρ))
def F_lowest : List D → FR := fnD 1 none B_lowest
def B_law_refused : DL.Env → Fl :=
  (dSeq (dTry (dBind (dCall 1 F_lowest (dACons (dC (.int 0)) dANil)) fun _ ρ => .nx ρ) ((("Fault" : Str), ([("Malformed", true), ("Refused", true), ("NoText", true)] : List (Str × Bool)), hRet 0 (sAnd (sIsX "Refused" true) (sAnd (sOp gEqA (sF "Refused" "reason") (sC (.str "empty"))) (sAnd (sIsX "Refused" true) (sNot (sIsX "Refused" false)))))) :: []))
  (dBind (dC (.bl false)) fun d ρ => .rt d ρ))
def F_law_refused : List D → FR := fnD 1 none B_law_refused
def B_count : DL.Env → Fl :=
  (dBind (dU gLen (dCall 1 DC.F_members (dACons (dVar 0) dANil))) fun d ρ => .rt d ρ)
def F_count : List D → FR := fnD 1 none B_count
def B_law : DL.Env → Fl :=
  (dSeq (dBind (dCall 1 DC.F_law_state (dACons (dVar 0) dANil)) (stSet 1))
  (dSeq (dBind (dFz (dTup (dACons (dCallL 2 (some 0) DC.F_law_take (dALent 1 (dACons (dC (.int 256)) dANil))) (dACons (dCallL 2 (some 0) DC.F_law_take (dALent 1 (dACons (dC (.int 256)) dANil))) dANil)))) (stTg (tgT [2, 3])))
  (dSeq (dBind (dFz (dCall 1 F_law_members (dACons (dVar 2) dANil))) (stSet 4))
  (dSeq (dIf (dOrT (dB (dOp2 gNe (dCall 1 DC.F_members (dACons (dVar 2) dANil)) (dU gTuple (dVar 4)))) (dOrT (dB (dOp2 gNe (dCall 1 F_count (dACons (dVar 2) dANil)) (dU gLen (dVar 4)))) (dOrT (dB (dOp2 gNe (dCall 1 DC.F_set_of (dACons (dVar 4) dANil)) (dVar 2))) (dB (dOp2 gNe (dCall 1 DC.F_set_of (dACons (dOp2 gAdd (dU gTuple (dVar 4)) (dU gTuple (dSl (dVar 4) none (some (dC (.int 1)))))) dANil)) (dVar 2)))))) (dBind (dC (.bl false)) fun d ρ => .rt d ρ) dNext)
  (dSeq (dIf (dAndT (dB (dOp2 gGt (dU gLen (dVar 4)) (dC (.int 0)))) (dB (dOp2 gNe (dCall 1 F_lowest (dACons (dVar 2) dANil)) (dOp2 gIx (dVar 4) (dC (.int 0)))))) (dBind (dC (.bl false)) fun d ρ => .rt d ρ) dNext)
  (dSeq (dFor (dRng1 (dC (.int 10))) (tg1 5) (dIf (dB (dOp2 gNe (dCall 2 DC.F_has (dACons (dVar 2) (dACons (dVar 5) dANil))) (dOp2 gIn (dVar 5) (dVar 4)))) (dBind (dC (.bl false)) fun d ρ => .rt d ρ) dNext))
  (dSeq (dBind (dOp2 gEq (dU gLen (dLc [5] (dIter (dVar 4)) (tg1 5) (dB (dOp2 gNotIn (dVar 5) (dCall 1 F_law_members (dACons (dVar 3) dANil)))) (dVar 5))) (dC (.int 0))) (stSet 6))
  (dSeq (dIf (dOrT (dB (dOp2 gNe (dCall 2 DC.F_is_part (dACons (dVar 2) (dACons (dVar 3) dANil))) (dVar 6))) (dOrT (dB (dOp2 gIsNot (dCall 2 DC.F_is_part (dACons (dVar 2) (dACons (dVar 2) dANil))) (dC (.bl true)))) (dB (dOp2 gIsNot (dCall 2 DC.F_is_part (dACons (dC (.int 0)) (dACons (dVar 3) dANil))) (dC (.bl true)))))) (dBind (dC (.bl false)) fun d ρ => .rt d ρ) dNext)
  (dSeq (dFrz 1 (dBind (dCallL 2 (some 0) DC.F_law_take (dALent 1 (dACons (dC (.int 10)) dANil))) (stSet 7)))
  (dSeq (dBind (dC (.int 1)) (stSet 8))
  (dSeq (dFor (dRng1 (dVar 7)) (tg1 9) (dBind (dOp2 gMul (dVar 8) (dC (.int 2))) (stSet 8)))
  (dSeq (dIf (dOrT (dB (dOp2 gNe (dCall 2 DC.F_is_set (dACons (dVar 2) (dACons (dVar 7) dANil))) (dOp2 gLt (dVar 2) (dVar 8)))) (dOrT (dB (dOp2 gIsNot (dCall 2 DC.F_is_set (dACons (dVar 8) (dACons (dVar 7) dANil))) (dC (.bl false)))) (dB (dOp2 gIsNot (dCall 2 DC.F_is_set (dACons (dU gNeg (dC (.int 1))) (dACons (dVar 7) dANil))) (dC (.bl false)))))) (dBind (dC (.bl false)) fun d ρ => .rt d ρ) dNext)
  (dSeq (dFor (dIter (dFz (dLst (dACons (dC .non) (dACons (dC (.bl true)) (dACons (dC (.str "1")) (dACons (dTup (dACons (dC (.int 1)) dANil)) dANil))))))) (tg1 10) (dIf (dOrT (dB (dOp2 gIsNot (dCall 2 DC.F_is_set (dACons (dVar 10) (dACons (dVar 7) dANil))) (dC (.bl false)))) (dB (dOp2 gIsNot (dCall 1 DC.F_is_integer (dACons (dVar 10) dANil)) (dC (.bl false))))) (dBind (dC (.bl false)) fun d ρ => .rt d ρ) dNext))
  (dSeq (dBind (dCall 1 DC.F_set_of (dACons (dSl (dVar 4) none (some (dC (.int 6)))) dANil)) (stSet 11))
  (dSeq (dFrz 12 (dBind (dLc [13] (dRng1 (dOp2 gAdd (dVar 11) (dC (.int 1)))) (tg1 13) (dB (dOp2 gEq (dU gLen (dLc [5] (dIter (dFz (dCall 1 F_law_members (dACons (dVar 13) dANil)))) (tg1 5) (dB (dOp2 gNotIn (dVar 5) (dSl (dVar 4) none (some (dC (.int 6)))))) (dVar 5))) (dC (.int 0)))) (dVar 13)) (stSet 12)))
  (dBind (dAndV (dOp2 gEq (dU gParts (dVar 11)) (dVar 12)) (dAndV (dOp2 gIs (dCall 1 DC.F_is_integer (dACons (dVar 2) dANil)) (dC (.bl true))) (dCall0 F_law_refused))) fun d ρ => .rt d ρ))))))))))))))))
def F_law : List D → FR := fnD 14 none B_law
end G00
set_option pp.maxSteps 1500
namespace G00
open PySem L2 DL DC
def pts (a : Nat) : List Nat := (List.range 8).filter a.testBit
def natsOf : List D → Option (List Nat)
  | [] => some []
  | .a (.int (.ofNat n)) :: xs => (natsOf xs).map (n :: ·)
  | _ :: _ => none
theorem natsOf_eq : ∀ {xs : List D} {l : List Nat}, natsOf xs = some l → xs = l.map natD
  | [], l, h => by cases h; rfl
  | x :: xs, l, h => by
    unfold natsOf at h
    split at h
    · cases h; rename_i e; cases e
    · rename_i n ys e
      cases e
      obtain ⟨l', h1, rfl⟩ := Option.map_eq_some_iff.mp h
      rw [natsOf_eq h1]
      rfl
    · cases h
def chkL (r : FR) (l : List Nat) : Bool := match r with
  | .rt (.n .lst false xs) none => (match natsOf xs with
    | some l' => decide (l' = l)
    | none => false)
  | _ => false
theorem chkL_eq {r : FR} {l : List Nat} (h : chkL r l = true) : r = .rt (.n .lst false (l.map natD)) none := by
  unfold chkL at h
  split at h
  · rename_i xs
    split at h
    · rename_i l' e
      rw [natsOf_eq e, of_decide_eq_true h]
    · cases h
  · cases h
theorem lmem_all : ((List.range 256).all fun a => chkL (F_law_members [natD a]) (pts a)) = true := by decide +kernel
theorem lmem_eq {a : Nat} (ha : a < 256) : F_law_members [natD a] = .rt (.n .lst false ((pts a).map natD)) none := chkL_eq (List.all_eq_true.mp lmem_all a (List.mem_range.mpr ha))
theorem mem_eq {a : Nat} (ha : a < 256) : F_members [natD a] = .rt (tupN (pts a)) none := members_eq (n := 8) (by simpa using ha) (by decide)
theorem cnt_eq {a : Nat} (ha : a < 256) : F_count [natD a] = .rt (natD (pts a).length) none := by
  apply wf_eq
  unfold F_count
  rw [wf_fn]
  unfold B_count
  rw [p_Bind]
  have h1 := lenT (xs := (pts a).map natD) (f := dCall 1 DC.F_members (dACons (dVar 0) dANil)) (ρ := [some (natD a)]) (call1 (var_eq rfl rfl) rfl (mem_eq ha))
  rw [List.length_map] at h1
  exact wo_of h1 ⟨rfl, rfl⟩
theorem set_all : ((List.range 256).all fun a => decide (setm (pts a) = a) && (decide (setm (pts a ++ (pts a).take 1) = a) && (decide ((pts a).take 6 = pts (setm ((pts a).take 6))) && decide (setm ((pts a).take 6) < 256)))) = true := by decide +kernel
theorem set_at {a : Nat} (ha : a < 256) : setm (pts a) = a ∧ setm (pts a ++ (pts a).take 1) = a ∧ (pts a).take 6 = pts (setm ((pts a).take 6)) ∧ setm ((pts a).take 6) < 256 := by
  have h := List.all_eq_true.mp set_all a (List.mem_range.mpr ha)
  simpa only [Bool.and_eq_true, decide_eq_true_eq] using h
theorem mem_pts {a x : Nat} : x ∈ pts a ↔ x < 8 ∧ a.testBit x = true := by
  unfold pts
  rw [List.mem_filter, List.mem_range]
theorem pts_bit {a : Nat} (ha : a < 256) (x : Nat) : decide (x ∈ pts a) = a.testBit x := by
  rw [Bool.eq_iff_iff, decide_eq_true_iff, mem_pts]
  refine ⟨fun h => h.2, fun h => ⟨?_, h⟩⟩
  refine Classical.byContradiction fun q => ?_
  have h2 : a < 2 ^ x := Nat.lt_of_lt_of_le ha (Nat.pow_le_pow_right (n := 2) (by decide) (show 8 ≤ x by omega))
  rw [Nat.testBit_lt_two_pow h2] at h
  cases h
theorem pts_len {a : Nat} : (pts a).length ≤ 8 := by
  have := List.length_filter_le a.testBit (List.range 8)
  rwa [List.length_range] at this
theorem pts_lt {a x : Nat} (h : x ∈ pts a) : x < 8 := (mem_pts.mp h).1
theorem setof_eq {k : Kd} (hk : k = .lst ∨ k = .tup) {l : List Nat} {m : Nat} (hl : l.length ≤ 100) (hb : ∀ x ∈ l, x < 8) (h : setm l = m) : F_set_of [.n k false (l.map natD)] = .rt (natD m) none := by
  rw [set_of_eq hk (by omega) fun x hx => by have := hb x hx; omega, h]
  rfl
theorem low_eq {a x : Nat} {l : List Nat} (ha : a < 256) (h : pts a = x :: l) : F_lowest [natD a] = .rt (natD x) none := by
  have h0 : a ≠ 0 := fun e => by
    rw [e] at h
    have : pts 0 = [] := by decide +kernel
    rw [this] at h
    cases h
  apply wf_eq
  unfold F_lowest
  rw [wf_fn]
  unfold B_lowest
  show WP _ (dSeq _ _ [some (natD a)])
  refine wp_step fun K hK => ?_
  rw [wx]
  refine if_no ((eqN (b := 0) (var_eq rfl rfl) (cE (x := .int 0))).trans (by rw [decide_eq_false h0])) ?_
  rw [p_Next]
  apply hK
  clear hK K
  rw [p_Bind]
  refine wo_of (ixTP (xs := (pts a).map natD) (i := 0) (d := natD x) (call1 (var_eq rfl rfl) rfl (mem_eq ha)) (cE (x := .int 0)) (by rw [h]; rfl) rfl) ⟨rfl, rfl⟩
theorem part2 {a b : Nat} : F_is_part [natD a, natD b] = .rt (.a (.bl (decide (a &&& b = a)))) none := by
  apply wf_eq
  unfold F_is_part
  rw [wf_fn]
  unfold B_is_part
  rw [p_Bind]
  refine wo_of (eqNV (a := a &&& b) (b := a) (op2E (a := natD a) (b := natD b) (var_eq rfl rfl) (var_eq rfl rfl) fun P => ?_) (var_eq rfl rfl)) ⟨rfl, rfl⟩
  rfl
theorem inside_iff {a b : Nat} (ha : a < 256) (hb : b < 256) : decide (((pts a).filter fun x => !decide (x ∈ pts b)).length = 0) = decide (a &&& b = a) := by
  rw [Bool.eq_iff_iff, decide_eq_true_iff, decide_eq_true_iff, List.length_eq_zero_iff, List.filter_eq_nil_iff]
  constructor
  · intro h
    refine Nat.eq_of_testBit_eq fun i => ?_
    rw [Nat.testBit_and]
    cases e : a.testBit i with
    | false => rfl
    | true =>
      have h1 : i ∈ pts a := of_decide_eq_true ((pts_bit ha i).trans e)
      have h2 := h i h1
      rw [pts_bit hb] at h2
      cases e2 : b.testBit i with
      | true => rfl
      | false =>
        rw [e2] at h2
        exact absurd rfl h2
  · intro h x hx
    have h1 : a.testBit x = true := (mem_pts.mp hx).2
    rw [← h, Nat.testBit_and, Bool.and_eq_true] at h1
    rw [pts_bit hb, h1.2]
    decide
theorem refused_eq : F_law_refused [] = .rt (.a (.bl true)) none := by kernel_rfl
theorem prt_all : ((List.range 256).all fun s => decide (partsO (s : Int) 300 0 = some (((List.range (s + 1)).filter fun b => decide (b &&& s = b)).map fun (b : Nat) => (b : Int)))) = true := by decide +kernel
theorem prt_eq {s : Nat} (hs : s < 256) : partsO (s : Int) 300 0 = some (((List.range (s + 1)).filter fun b => decide (b &&& s = b)).map fun (b : Nat) => (b : Int)) := of_decide_eq_true (List.all_eq_true.mp prt_all s (List.mem_range.mpr hs))
theorem slLst {f g : DL.Env → Out D} {ρ : DL.Env} {l : List Nat} {k : Nat} (hf : f ρ = .ok (.n .lst false (l.map natD)) ρ) (hg : g ρ = .ok (natD k) ρ) : dSl f none (some g) ρ = .ok (.lst true ((l.take k).map natD)) ρ := by
  have e : cutD (l.map natD) none (some (k : Int)) = (l.take k).map natD := by rw [cut_hi, List.map_take]
  apply out_eq
  rw [w_Sl, hf, wo_ok, w_part0, w_part1, hg, wo_ok]
  have h1 : gSl (.n .lst false (l.map natD)) none (some (k : Int)) = some (.lst true ((l.take k).map natD)) := by
    show (if isFL (l.map natD) = true then some (D.lst true (cutD (l.map natD) none (some (k : Int)))) else none) = _
    rw [if_pos isFL_nat, e]
  show SO (gSl (.n .lst false (l.map natD)) none (some (k : Int))) _
  rw [h1]
  exact ⟨rfl, rfl⟩
theorem mul2 {f : DL.Env → Out D} {ρ : DL.Env} {m : Nat} (hf : f ρ = .ok (natD m) ρ) (hm : m ≤ 1000) : dOp2 gMul f (dC (.int 2)) ρ = .ok (natD (m * 2)) ρ := op2E hf (cE (x := .int 2)) fun P => by
  show SO (gMul (.a (.int (m : Int))) (.a (.int 2))) P = _
  rw [o_mul]
  have h1 : mulOk (m : Int) 2 = true := by
    exact mulOk_of (m := 41) (n := 3) (PySem.intBits_le_iff.mpr (by omega)) (PySem.intBits_le_iff.mpr (by decide)) (by decide)
  rw [h1, eq_self, true_and]
  have e : (m : Int) * 2 = ((m * 2 : Nat) : Int) := by omega
  rw [e]
  rfl
theorem call1f {F : List D → FR} {fa : DL.Env → Out D} {ρ : DL.Env} {xs : List D} {d : D} (ha : fa ρ = .ok (.n .lst true xs) ρ) (hf : isFL xs = true) (hF : F [.n .lst false xs] = .rt d none) : dCall 1 F (dACons fa dANil) ρ = .ok d ρ := by
  refine callZ (ds := [.n .lst true xs]) (agC ha agN) rfl ?_
  rw [frzL_cons, frz_n, frzL_isFL _ hf]
  exact hF
theorem w_fzc {fa : DL.Env → Out D} {ρ ρ' : DL.Env} {d : D} (h : fa ρ = .ok d ρ') : dFz fa ρ = .ok (frz d) ρ' := by
  apply out_eq
  rw [w_Fz, h]
  exact ⟨rfl, rfl⟩
theorem law_true (ns : List Int) (hl : ns.length ≤ 63) (hb : ∀ z ∈ ns, Builtin.Int.intBits z ≤ 1048576) : F_law [.scr (ns.map D.int)] = .rt (.bl true) none := by
  apply wf_eq
  unfold F_law
  rw [wf_fn]
  unfold B_law
  refine wp_step fun K hK => ?_
  simp
  refine (state_wf ns hl hb).mono ?_
  intro d io h1
  apply hK
  clear hK K
  generalize D.scr (ns.map D.int) = d0
  refine wp_cutK (fun ρ => ∃ (st : D) (a : Nat) (b : Nat), ρ = [some (d0), some (st), some (natD a), some (natD b), none, none, none, none, none, none, none, none, none, none] ∧ (Stt st ∧ a < 256 ∧ b < 256)) (fun K hK => ?_) ?_
  · obtain ⟨st1, a, e1, g1, g2⟩ := take_ex (ρ := [some (d0), some (d), none, none, none, none, none, none, none, none, none, none, none, none]) (i := 1) (n := 256) (f := dC (.int 256)) rfl h1 (cE (x := .int 256)) (by decide) (by decide)
    obtain ⟨st2, b, e2, g3, g4⟩ := take_ex (ρ := [some (d0), some (st1), none, none, none, none, none, none, none, none, none, none, none, none]) (i := 1) (n := 256) (f := dC (.int 256)) rfl g1 (cE (x := .int 256)) (by decide) (by decide)
    have ht : dTup (dACons (dCallL 2 (some 0) DC.F_law_take (dALent 1 (dACons (dC (.int 256)) dANil))) (dACons (dCallL 2 (some 0) DC.F_law_take (dALent 1 (dACons (dC (.int 256)) dANil))) dANil)) [some (d0), some (d), none, none, none, none, none, none, none, none, none, none, none, none] = .ok (.n .tup false [natD a, natD b]) [some (d0), some (st2), none, none, none, none, none, none, none, none, none, none, none, none] := by
      apply out_eq
      rw [w_Tup, w_ACons, e1, wo_ok, w_ACons]
      refine wo_of e2 ?_
      rw [w_ANil]
      exact ⟨show 2 ≤ cap by decide, rfl, rfl⟩
    have e3 := w_fzc ht
    have fz : frz (.n .tup false [natD a, natD b]) = .n .tup false [natD a, natD b] := rfl
    rw [fz] at e3
    rw [wx, p_Bind]
    refine wo_of e3 ?_
    rw [p_Tg, tgT_tup, s_tgL, s_tgL, tgL_nil, so_some]
    exact ⟨by simp, by simp, hK _ ⟨st2, a, b, rfl, g3, g2, g4⟩⟩
  clear h1 io d
  intro ρ h
  obtain ⟨st, a, b, hρ, h1, ha, hb'⟩ := h
  subst hρ
  obtain ⟨q1, q2, q3, q4⟩ := set_at ha
  have hpl := pts_len (a := a)
  have hvP : isF (.n .lst false ((pts a).map natD)) = true := by rw [isF_n, isFL_nat]; rfl
  refine wp_cutK (fun ρ => ρ = [some (d0), some (st), some (natD a), some (natD b), some (.n .lst false ((pts a).map natD)), none, none, none, none, none, none, none, none, none]) (fun K hK => ?_) ?_
  · have g1 := w_fz (call1 (ρ := [some (d0), some (st), some (natD a), some (natD b), none, none, none, none, none, none, none, none, none, none]) (fa := dVar 2) (var_eq rfl rfl) rfl (lmem_eq ha))
    rw [frz_isF _ hvP] at g1
    rw [wx, p_Bind]
    refine wo_of g1 ?_
    rw [p_Set]
    exact ⟨by simp, hK _ rfl⟩
  intro ρ h
  subst h
  have hP : ∀ ρ : DL.Env, ρ[4]? = some (some (.n .lst false ((pts a).map natD))) → dVar 4 ρ = .ok (.n .lst false ((pts a).map natD)) ρ := fun ρ h => var_eq h hvP
  have hTu : ∀ (ρ : DL.Env) (f : DL.Env → Out D) (o : Bool) (l : List Nat), f ρ = .ok (.n .lst o (l.map natD)) ρ → dU gTuple f ρ = .ok (tupN l) ρ := fun ρ f o l h => uE h fun P => by unfold tupN; simp
  have hpD : ∀ x ∈ (pts a).map natD, pD 59 x = true := fun x hx => by
    obtain ⟨v, _, rfl⟩ := List.mem_map.mp hx
    simp [natD, pD]
  refine wp_step fun K hK => ?_
  rw [wx]
  refine if_no ((orE (a := false) (b := false) (neS (k := .tup) (o := false) (o' := false) (xs := (pts a).map natD) (.inl rfl) hpD (call1 (fa := dVar 2) (var_eq rfl rfl) rfl (mem_eq ha)) (hTu _ _ false (pts a) (hP _ rfl))) fun _ => orE (a := false) (b := false) (neNN (call1 (fa := dVar 2) (var_eq rfl rfl) rfl (cnt_eq ha)) (lenL (hP _ rfl))) fun _ => orE (a := false) (b := false) (neNN (call1 (fa := dVar 4) (hP _ rfl) hvP (setof_eq (.inl rfl) (by omega) (fun x hx => pts_lt hx) q1)) (var_eq rfl rfl)) fun _ => neNN (call1 (a := tupN (pts a ++ (pts a).take 1)) (catN (hTu _ _ false (pts a) (hP _ rfl)) (hTu _ _ true ((pts a).take 1) (slLst (k := 1) (hP _ rfl) (cE (x := .int 1)))) (by rw [List.length_take]; omega)) isF_tupN (setof_eq (.inr rfl) (by rw [List.length_append, List.length_take]; omega) (fun x hx => (List.mem_append.mp hx).elim (fun h => pts_lt h) fun h => pts_lt (List.mem_of_mem_take h)) q2)) (var_eq rfl rfl)).trans rfl) ?_
  rw [p_Next]
  apply hK
  clear hK K
  refine wp_step fun K hK => ?_
  rw [wx]
  refine if_no ((andE (b := false) (gtE (b := 0) (lenL (hP _ rfl)) (cE (x := .int 0))) fun q => ?_).trans (by rw [Bool.and_false])) ?_
  · obtain ⟨x, l, e⟩ : ∃ x l, pts a = x :: l := by
      cases e : pts a with
      | nil => rw [e] at q; cases q
      | cons x l => exact ⟨x, l, rfl⟩
    exact neNN (call1 (fa := dVar 2) (var_eq rfl rfl) rfl (low_eq ha e)) (op2E (hP _ rfl) (cE (x := .int 0)) fun P => ix_any (k := .lst) (xs := (pts a).map natD) (i := 0) (x := natD x) (.inl rfl) (by rw [e]; rfl) rfl)
  rw [p_Next]
  apply hK
  clear hK K
  refine wp_cutK (fun ρ => ∃ (v5 : Option D), ρ = [some (d0), some (st), some (natD a), some (natD b), some (.n .lst false ((pts a).map natD)), v5, none, none, none, none, none, none, none, none] ∧ (∀ d, v5 = some d → isF d = true)) (fun K hK => ?_) ?_
  · rw [wx, p_For, src_rngN (n := 10) (cE (x := .int 10)) (by decide), wo_ok]
    refine wp_forK (fun i ρ => ∃ (v5 : Option D), ρ = [some (d0), some (st), some (natD a), some (natD b), some (.n .lst false ((pts a).map natD)), v5, none, none, none, none, none, none, none, none] ∧ (∀ d, v5 = some d → isF d = true)) ⟨none, rfl, fun d h => by cases h⟩ ?_ ?_
    · intro i d ρ hd h J hJ
      obtain ⟨v5, hρ, h5⟩ := h
      subst hρ
      obtain ⟨hi, hde⟩ := vec_get' (n := 10) (f := natD) (i := i) (d := d) hd
      subst hde
      rw [s_tg1]
      refine ⟨by simp, ?_⟩
      refine if_no ((neBE (a := a.testBit i) (b := decide (i ∈ pts a)) (call2 (fa := dVar 2) (fb := dVar 5) (var_eq rfl rfl) (var_eq rfl rfl) rfl rfl (has_eq a i)) (op2E (a := natD i) (b := .n .lst false ((pts a).map natD)) (var_eq rfl rfl) (hP _ rfl) fun P => o_inN (.inl rfl))).trans (by rw [pts_bit ha]; simp)) ?_
      rw [p_Next]
      exact hJ _ ⟨_, rfl, fun d h => by injection h with h; rw [← h]; rfl⟩
    · intro ρ h
      obtain ⟨v5, hρ, h5⟩ := h
      subst hρ
      exact hK _ ⟨v5, rfl, h5⟩
  intro ρ h
  obtain ⟨v5, hρ, h5⟩ := h
  subst hρ
  refine wp_cutK (fun ρ => ∃ (v5 : Option D), ρ = [some (d0), some (st), some (natD a), some (natD b), some (.n .lst false ((pts a).map natD)), v5, some (.a (.bl (decide (a &&& b = a)))), none, none, none, none, none, none, none] ∧ (∀ d, v5 = some d → isF d = true)) (fun K hK => ?_) ?_
  · have e1 : dLc [5] (dIter (dVar 4)) (tg1 5) (dB (dOp2 gNotIn (dVar 5) (dCall 1 F_law_members (dACons (dVar 3) dANil)))) (dVar 5) [some (d0), some (st), some (natD a), some (natD b), some (.n .lst false ((pts a).map natD)), v5, none, none, none, none, none, none, none, none] = .ok (.n .lst true (((pts a).filter fun x => !decide (x ∈ pts b)).map natD)) [some (d0), some (st), some (natD a), some (natD b), some (.n .lst false ((pts a).map natD)), v5, none, none, none, none, none, none, none, none] := by
      refine lcE (l := pts a) (fun x => !decide (x ∈ pts b)) (fun d h => h5 d (by simpa using h)) (by simp) (src_lst (.inl rfl) (hP _ rfl) (by omega)) (by omega) fun x hx => ?_
      exact bE (op2E (a := natD x) (b := .n .lst false ((pts b).map natD)) (var_eq rfl rfl) (call1 (fa := dVar 3) (var_eq rfl rfl) rfl (lmem_eq hb')) fun P => o_notinN (.inl rfl))
    have e2 := eqNV (b := 0) (lenL e1) (cE (x := .int 0))
    rw [inside_iff ha hb'] at e2
    rw [wx, p_Bind]
    refine wo_of e2 ?_
    rw [p_Set]
    exact ⟨by simp, hK _ ⟨v5, rfl, h5⟩⟩
  clear h5
  intro ρ h
  obtain ⟨v5, hρ, h5⟩ := h
  subst hρ
  refine wp_step fun K hK => ?_
  rw [wx]
  have isT : ∀ {f : DL.Env → Out D} {ρ : DL.Env}, f ρ = .ok (.a (.bl true)) ρ → dB (dOp2 gIsNot f (dC (.bl true))) ρ = .ok false ρ := fun {f ρ} h => bE (op2E h rfl fun P => rfl)
  have isFl : ∀ {f : DL.Env → Out D} {ρ : DL.Env}, f ρ = .ok (.a (.bl false)) ρ → dB (dOp2 gIsNot f (dC (.bl false))) ρ = .ok false ρ := fun {f ρ} h => bE (op2E h rfl fun P => rfl)
  have p11 : F_is_part [natD a, natD a] = .rt (.a (.bl true)) none := by rw [part2, Nat.and_self, decide_eq_true rfl]
  have p0 : F_is_part [natD 0, natD b] = .rt (.a (.bl true)) none := by rw [part2, Nat.zero_and, decide_eq_true rfl]
  refine if_no ((orE (a := false) (b := false) ((neBE (call2 (fa := dVar 2) (fb := dVar 3) (var_eq rfl rfl) (var_eq rfl rfl) rfl rfl part2) (var_eq (i := 6) rfl rfl)).trans (by simp)) fun _ => orE (a := false) (b := false) (isT (call2 (fa := dVar 2) (fb := dVar 2) (var_eq rfl rfl) (var_eq rfl rfl) rfl rfl p11)) fun _ => isT (call2 (a := natD 0) (fb := dVar 3) (cE (x := .int 0)) (var_eq rfl rfl) rfl rfl p0)).trans rfl) ?_
  rw [p_Next]
  apply hK
  clear hK K
  refine wp_cutK (fun ρ => ∃ (st : D) (n : Nat) (v5 : Option D), ρ = [some (d0), some (st), some (natD a), some (natD b), some (.n .lst false ((pts a).map natD)), v5, some (.a (.bl (decide (a &&& b = a)))), some (natD n), none, none, none, none, none, none] ∧ (n < 10 ∧ (∀ d, v5 = some d → isF d = true))) (fun K hK => ?_) ?_
  · obtain ⟨st1, n, e1, g1, g2⟩ := take_ex (ρ := [some (d0), some (st), some (natD a), some (natD b), some (.n .lst false ((pts a).map natD)), v5, some (.a (.bl (decide (a &&& b = a)))), none, none, none, none, none, none, none]) (i := 1) (n := 10) (f := dC (.int 10)) rfl h1 (cE (x := .int 10)) (by decide) (by decide)
    rw [wx, p_Frz, p_Bind]
    refine wo_of e1 ?_
    rw [p_Set]
    refine ⟨by simp, ?_⟩
    show K (frzAt 1 _)
    exact hK _ ⟨frz st1, n, v5, rfl, g2, h5⟩
  clear h1 h5
  intro ρ h
  obtain ⟨st, n, v5, hρ, hn, h5⟩ := h
  subst hρ
  have hpow : 2 ^ n ≤ 512 := by
    have : 2 ^ n ≤ 2 ^ 9 := Nat.pow_le_pow_right (by decide) (by omega)
    simpa using this
  refine wp_cutK (fun ρ => ∃ (v5 : Option D), ρ = [some (d0), some (st), some (natD a), some (natD b), some (.n .lst false ((pts a).map natD)), v5, some (.a (.bl (decide (a &&& b = a)))), some (natD n), some (natD 1), none, none, none, none, none] ∧ (∀ d, v5 = some d → isF d = true)) (fun K hK => ?_) ?_
  · rw [wx, p_Bind]
    refine wo_of (cE (x := .int 1)) ?_
    rw [p_Set]
    exact ⟨by simp, hK _ ⟨v5, rfl, h5⟩⟩
  clear h5
  intro ρ h
  obtain ⟨v5, hρ, h5⟩ := h
  subst hρ
  refine wp_cutK (fun ρ => ∃ (v5 v9 : Option D), ρ = [some (d0), some (st), some (natD a), some (natD b), some (.n .lst false ((pts a).map natD)), v5, some (.a (.bl (decide (a &&& b = a)))), some (natD n), some (natD (2 ^ n)), v9, none, none, none, none] ∧ (∀ d, v5 = some d → isF d = true)) (fun K hK => ?_) ?_
  · rw [wx, p_For, src_rngN (n := n) (var_eq (i := 7) rfl rfl) (by omega), wo_ok]
    refine wp_forK (fun i ρ => ∃ (v5 v9 : Option D), ρ = [some (d0), some (st), some (natD a), some (natD b), some (.n .lst false ((pts a).map natD)), v5, some (.a (.bl (decide (a &&& b = a)))), some (natD n), some (natD (2 ^ i)), v9, none, none, none, none] ∧ (∀ d, v5 = some d → isF d = true)) ⟨v5, none, rfl, h5⟩ ?_ ?_
    · intro i d ρ hd h J hJ
      clear h5
      obtain ⟨v5, v9, hρ, h5⟩ := h
      subst hρ
      have hv := vec_get' (n := n) (f := natD) (i := i) (d := d) hd
      have hi : i < n := hv.1
      have hde : d = natD i := hv.2
      clear hv hd
      subst hde
      rw [s_tg1]
      refine ⟨show 9 < 14 by decide, ?_⟩
      have h9 : 2 ^ i ≤ 2 ^ 9 := Nat.pow_le_pow_right (by decide) (by omega)
      have e9 : (2 : Nat) ^ 9 = 512 := by decide +kernel
      have hp1 : 2 ^ i ≤ 1000 := by omega
      rw [Nat.pow_succ] at hJ
      generalize 2 ^ i = m at hp1 hJ ⊢
      show WP _ (dBind _ _ [some (d0), some (st), some (natD a), some (natD b), some (.n .lst false ((pts a).map natD)), v5, some (.a (.bl (decide (a &&& b = a)))), some (natD n), some (natD m), some (natD i), none, none, none, none])
      rw [p_Bind]
      have hm2 := mul2 (f := dVar 8) (ρ := [some (d0), some (st), some (natD a), some (natD b), some (.n .lst false ((pts a).map natD)), v5, some (.a (.bl (decide (a &&& b = a)))), some (natD n), some (natD m), some (natD i), none, none, none, none]) (var_eq (d := natD m) rfl rfl) hp1
      rw [hm2, wo_ok]
      rw [p_Set]
      exact ⟨show 8 < 14 by decide, hJ _ ⟨v5, some (natD i), rfl, h5⟩⟩
    · intro ρ h
      clear h5
      obtain ⟨v5, v9, hρ, h5⟩ := h
      subst hρ
      rw [range_map_len2]
      exact hK _ ⟨v5, v9, rfl, h5⟩
  clear h5
  intro ρ h
  obtain ⟨v5, v9, hρ, h5⟩ := h
  subst hρ
  have hset : ∀ z : Int, F_is_set [.a (.int z), natD n] = .rt (.a (.bl (decide (0 ≤ z) && decide (z < ((2 ^ n : Nat) : Int))))) none := fun z => isset_int (by omega)
  have hs1 : F_is_set [natD a, natD n] = .rt (.a (.bl (decide (a < 2 ^ n)))) none := by
    have h1 : (0 : Int) ≤ (a : Int) := by omega
    have h2 := hset (a : Int)
    rw [decide_eq_true h1, Bool.true_and, show decide ((a : Int) < ((2 ^ n : Nat) : Int)) = decide (a < 2 ^ n) from decide_eq_decide.mpr Int.ofNat_lt] at h2
    exact h2
  have hs2 : F_is_set [natD (2 ^ n), natD n] = .rt (.a (.bl false)) none := by
    have h2 := hset ((2 ^ n : Nat) : Int)
    rw [show decide (((2 ^ n : Nat) : Int) < ((2 ^ n : Nat) : Int)) = false from decide_eq_false (by omega), Bool.and_false] at h2
    exact h2
  have hs3 : F_is_set [.a (.int (-1)), natD n] = .rt (.a (.bl false)) none := by
    have h2 := hset (-1)
    rw [show decide ((0 : Int) ≤ -1) = false from rfl, Bool.false_and] at h2
    exact h2
  refine wp_step fun K hK => ?_
  rw [wx]
  refine if_no ((orE (a := false) (b := false) ((neBE (call2 (fa := dVar 2) (fb := dVar 7) (var_eq rfl rfl) (var_eq rfl rfl) rfl rfl hs1) (op2E (g := gLt) (d := .a (.bl (decide (a < 2 ^ n)))) (var_eq (i := 2) rfl rfl) (var_eq (i := 8) rfl rfl) fun P => ltN)).trans (by simp)) fun _ => orE (a := false) (b := false) (isFl (call2 (fa := dVar 8) (fb := dVar 7) (var_eq rfl rfl) (var_eq rfl rfl) rfl rfl hs2)) fun _ => isFl (call2 (a := .a (.int (-1))) (fb := dVar 7) (uE (cE (x := .int 1)) fun P => rfl) (var_eq rfl rfl) rfl rfl hs3)).trans rfl) ?_
  rw [p_Next]
  apply hK
  clear hK K
  have hvals : ∀ d ∈ [D.a .non, .a (.bl true), .a (.str "1"), .n .tup false [.a (.int 1)]], isF d = true ∧ F_is_integer [d] = .rt (.a (.bl false)) none := fun d hd => by
    simp only [List.mem_cons, List.not_mem_nil, or_false] at hd
    rcases hd with rfl | rfl | rfl | rfl
    · exact ⟨rfl, by kernel_rfl⟩
    · exact ⟨rfl, by kernel_rfl⟩
    · exact ⟨rfl, by kernel_rfl⟩
    · exact ⟨rfl, by kernel_rfl⟩
  refine wp_cutK (fun ρ => ∃ (v5 v9 v10 : Option D), ρ = [some (d0), some (st), some (natD a), some (natD b), some (.n .lst false ((pts a).map natD)), v5, some (.a (.bl (decide (a &&& b = a)))), some (natD n), some (natD (2 ^ n)), v9, v10, none, none, none] ∧ (∀ d, v5 = some d → isF d = true)) (fun K hK => ?_) ?_
  · have hsrc : dIter (dFz (dLst (dACons (dC .non) (dACons (dC (.bl true)) (dACons (dC (.str "1")) (dACons (dTup (dACons (dC (.int 1)) dANil)) dANil)))))) [some (d0), some (st), some (natD a), some (natD b), some (.n .lst false ((pts a).map natD)), v5, some (.a (.bl (decide (a &&& b = a)))), some (natD n), some (natD (2 ^ n)), v9, none, none, none, none] = .ok [.a .non, .a (.bl true), .a (.str "1"), .n .tup false [.a (.int 1)]] [some (d0), some (st), some (natD a), some (natD b), some (.n .lst false ((pts a).map natD)), v5, some (.a (.bl (decide (a &&& b = a)))), some (natD n), some (natD (2 ^ n)), v9, none, none, none, none] := by
      have g1 := w_fz (lstG (ρ := [some (d0), some (st), some (natD a), some (natD b), some (.n .lst false ((pts a).map natD)), v5, some (.a (.bl (decide (a &&& b = a)))), some (natD n), some (natD (2 ^ n)), v9, none, none, none, none]) (agC (cE (x := .non)) (agC (cE (x := .bl true)) (agC (cE (x := .str "1")) (agC (tup1 (cE (x := .int 1)) rfl) agN)))) (by simp))
      apply out_eq
      rw [w_Iter]
      refine wo_of g1 ?_
      exact ⟨rfl, rfl, rfl⟩
    rw [wx]
    refine forRet (ds := [.a .non, .a (.bl true), .a (.str "1"), .n .tup false [.a (.int 1)]]) (fun _ => false) (by simp) hsrc (fun i d hd _ => ?_) (fun i ρ' _ h => by cases h) fun _ o => hK _ ⟨v5, v9, o, rfl, h5⟩
    obtain ⟨v1, v2⟩ := hvals d (List.mem_of_getElem? hd)
    exact (orE (a := false) (b := false) (isFl (call2 (fa := dVar 10) (fb := dVar 7) (var_eq rfl v1) (var_eq rfl rfl) v1 rfl (isset_no v1 v2))) fun _ => isFl (call1 (fa := dVar 10) (var_eq rfl v1) v1 v2)).trans rfl
  clear h5
  intro ρ h
  obtain ⟨v5, v9, v10, hρ, h5⟩ := h
  subst hρ
  have htk : ∀ x ∈ (pts a).take 6, x < 8 := fun x hx => pts_lt (List.mem_of_mem_take hx)
  obtain ⟨sm, hsm⟩ : ∃ sm, sm = setm ((pts a).take 6) := ⟨_, rfl⟩
  rw [← hsm] at q3 q4
  refine wp_cutK (fun ρ => ∃ (v5 v9 v10 : Option D), ρ = [some (d0), some (st), some (natD a), some (natD b), some (.n .lst false ((pts a).map natD)), v5, some (.a (.bl (decide (a &&& b = a)))), some (natD n), some (natD (2 ^ n)), v9, v10, some (natD sm), none, none] ∧ (∀ d, v5 = some d → isF d = true)) (fun K hK => ?_) ?_
  · rw [wx, p_Bind]
    have g1 := call1f (F := DC.F_set_of) (xs := ((pts a).take 6).map natD) (slLst (k := 6) (hP [some (d0), some (st), some (natD a), some (natD b), some (.n .lst false ((pts a).map natD)), v5, some (.a (.bl (decide (a &&& b = a)))), some (natD n), some (natD (2 ^ n)), v9, v10, none, none, none] rfl) (cE (x := .int 6))) isFL_nat (setof_eq (.inl rfl) (by rw [List.length_take]; omega) htk hsm.symm)
    refine wo_of g1 ?_
    rw [p_Set]
    exact ⟨by simp, hK _ ⟨v5, v9, v10, rfl, h5⟩⟩
  clear h5
  intro ρ h
  obtain ⟨v5, v9, v10, hρ, h5⟩ := h
  subst hρ
  obtain ⟨due, hdue⟩ : ∃ due, due = (List.range (sm + 1)).filter fun c => decide (c &&& sm = c) := ⟨_, rfl⟩
  have hvd : isF (.n .lst false (due.map natD)) = true := by rw [isF_n, isFL_nat]; rfl
  refine wp_cutK (fun ρ => ∃ (v5 v9 v10 : Option D), ρ = [some (d0), some (st), some (natD a), some (natD b), some (.n .lst false ((pts a).map natD)), v5, some (.a (.bl (decide (a &&& b = a)))), some (natD n), some (natD (2 ^ n)), v9, v10, some (natD sm), some (.n .lst false (due.map natD)), none]) (fun K hK => ?_) ?_
  · have e1 : dLc [13] (dRng1 (dOp2 gAdd (dVar 11) (dC (.int 1)))) (tg1 13) (dB (dOp2 gEq (dU gLen (dLc [5] (dIter (dFz (dCall 1 F_law_members (dACons (dVar 13) dANil)))) (tg1 5) (dB (dOp2 gNotIn (dVar 5) (dSl (dVar 4) none (some (dC (.int 6)))))) (dVar 5))) (dC (.int 0)))) (dVar 13) [some (d0), some (st), some (natD a), some (natD b), some (.n .lst false ((pts a).map natD)), v5, some (.a (.bl (decide (a &&& b = a)))), some (natD n), some (natD (2 ^ n)), v9, v10, some (natD sm), none, none] = .ok (.n .lst true (due.map natD)) [some (d0), some (st), some (natD a), some (natD b), some (.n .lst false ((pts a).map natD)), v5, some (.a (.bl (decide (a &&& b = a)))), some (natD n), some (natD (2 ^ n)), v9, v10, some (natD sm), none, none] := by
      rw [hdue]
      refine lcE (l := List.range (sm + 1)) (fun c => decide (c &&& sm = c)) (fun d h => by cases h) (by show 13 < 14; decide) (src_rngN (n := sm + 1) (addE (a := sm) (b := 1) (var_eq rfl rfl) (cE (x := .int 1))) (by omega)) (by rw [List.length_range]; omega) fun c hc => ?_
      have hc' : c < 256 := by
        have := List.mem_range.mp hc
        omega
      have hvc : isF (.n .lst false ((pts c).map natD)) = true := by rw [isF_n, isFL_nat]; rfl
      have hsrc : dIter (dFz (dCall 1 F_law_members (dACons (dVar 13) dANil))) [some (d0), some (st), some (natD a), some (natD b), some (.n .lst false ((pts a).map natD)), v5, some (.a (.bl (decide (a &&& b = a)))), some (natD n), some (natD (2 ^ n)), v9, v10, some (natD sm), none, some (natD c)] = .ok ((pts c).map natD) [some (d0), some (st), some (natD a), some (natD b), some (.n .lst false ((pts a).map natD)), v5, some (.a (.bl (decide (a &&& b = a)))), some (natD n), some (natD (2 ^ n)), v9, v10, some (natD sm), none, some (natD c)] := by
        have g1 := w_fz (call1 (ρ := [some (d0), some (st), some (natD a), some (natD b), some (.n .lst false ((pts a).map natD)), v5, some (.a (.bl (decide (a &&& b = a)))), some (natD n), some (natD (2 ^ n)), v9, v10, some (natD sm), none, some (natD c)]) (fa := dVar 13) (var_eq rfl rfl) rfl (lmem_eq hc'))
        rw [frz_isF _ hvc] at g1
        apply out_eq
        rw [w_Iter]
        refine wo_of g1 ?_
        have := pts_len (a := c)
        simp
        omega
      have e2 : dLc [5] (dIter (dFz (dCall 1 F_law_members (dACons (dVar 13) dANil)))) (tg1 5) (dB (dOp2 gNotIn (dVar 5) (dSl (dVar 4) none (some (dC (.int 6)))))) (dVar 5) [some (d0), some (st), some (natD a), some (natD b), some (.n .lst false ((pts a).map natD)), v5, some (.a (.bl (decide (a &&& b = a)))), some (natD n), some (natD (2 ^ n)), v9, v10, some (natD sm), none, some (natD c)] = .ok (.n .lst true (((pts c).filter fun x => !decide (x ∈ pts sm)).map natD)) [some (d0), some (st), some (natD a), some (natD b), some (.n .lst false ((pts a).map natD)), v5, some (.a (.bl (decide (a &&& b = a)))), some (natD n), some (natD (2 ^ n)), v9, v10, some (natD sm), none, some (natD c)] := by
        refine lcE (l := pts c) (fun x => !decide (x ∈ pts sm)) (fun d h => h5 d (Option.some.inj h)) (by show 5 < 14; decide) hsrc (by have := pts_len (a := c); omega) fun x hx => ?_
        have g2 := slLst (k := 6) (hP ([some (d0), some (st), some (natD a), some (natD b), some (.n .lst false ((pts a).map natD)), some (natD x), some (.a (.bl (decide (a &&& b = a)))), some (natD n), some (natD (2 ^ n)), v9, v10, some (natD sm), none, some (natD c)]) rfl) (cE (x := .int 6))
        rw [q3] at g2
        exact bE (op2E (a := natD x) (b := .n .lst true ((pts sm).map natD)) (var_eq rfl rfl) g2 fun P => o_notinN (.inl rfl))
      have e3 := eqN (b := 0) (lenL e2) (cE (x := .int 0))
      rw [inside_iff hc' q4] at e3
      exact e3
    rw [wx, p_Frz, p_Bind]
    rw [e1, wo_ok]
    rw [p_Set]
    refine ⟨show 12 < 14 by decide, ?_⟩
    show K (frzAt 12 _)
    refine hK _ ⟨v5, v9, v10, ?_⟩
    unfold frzAt
    show List.set _ 12 (some (frz (.n .lst true (due.map natD)))) = _
    rw [frz_n, frzL_nat]
    rfl
  intro ρ h
  obtain ⟨v5, v9, v10, hρ⟩ := h
  subst hρ
  have hpt : dU gParts (dVar 11) [some (d0), some (st), some (natD a), some (natD b), some (.n .lst false ((pts a).map natD)), v5, some (.a (.bl (decide (a &&& b = a)))), some (natD n), some (natD (2 ^ n)), v9, v10, some (natD sm), some (.n .lst false (due.map natD)), none] = .ok (.lst true (due.map natD)) [some (d0), some (st), some (natD a), some (natD b), some (.n .lst false ((pts a).map natD)), v5, some (.a (.bl (decide (a &&& b = a)))), some (natD n), some (natD (2 ^ n)), v9, v10, some (natD sm), some (.n .lst false (due.map natD)), none] := by
    refine uE (a := natD sm) (var_eq rfl rfl) fun P => ?_
    have h1 : gParts (natD sm) = some (.lst true (due.map natD)) := by
      show (partsO (sm : Int) 300 0).map (fun l => D.lst true (l.map D.int)) = _
      rw [prt_eq q4, ← hdue, Option.map_some, List.map_map]
      rfl
    rw [h1]
    rfl
  have heq : dOp2 gEq (dU gParts (dVar 11)) (dVar 12) [some (d0), some (st), some (natD a), some (natD b), some (.n .lst false ((pts a).map natD)), v5, some (.a (.bl (decide (a &&& b = a)))), some (natD n), some (natD (2 ^ n)), v9, v10, some (natD sm), some (.n .lst false (due.map natD)), none] = .ok (.a (.bl true)) [some (d0), some (st), some (natD a), some (natD b), some (.n .lst false ((pts a).map natD)), v5, some (.a (.bl (decide (a &&& b = a)))), some (natD n), some (natD (2 ^ n)), v9, v10, some (natD sm), some (.n .lst false (due.map natD)), none] := by
    refine op2E hpt (var_eq (d := .n .lst false (due.map natD)) rfl hvd) fun P => ?_
    have h1 : due.map natD = (due.map fun (x : Nat) => (x : Int)).map D.int := by
      rw [List.map_map]
      rfl
    rw [h1]
    show SO (gEq (.n .lst true _) (.n .lst false _)) P = _
    rw [o_eqLI, decide_eq_true rfl]
  have hin : dOp2 gIs (dCall 1 DC.F_is_integer (dACons (dVar 2) dANil)) (dC (.bl true)) [some (d0), some (st), some (natD a), some (natD b), some (.n .lst false ((pts a).map natD)), v5, some (.a (.bl (decide (a &&& b = a)))), some (natD n), some (natD (2 ^ n)), v9, v10, some (natD sm), some (.n .lst false (due.map natD)), none] = .ok (.a (.bl true)) [some (d0), some (st), some (natD a), some (natD b), some (.n .lst false ((pts a).map natD)), v5, some (.a (.bl (decide (a &&& b = a)))), some (natD n), some (natD (2 ^ n)), v9, v10, some (natD sm), some (.n .lst false (due.map natD)), none] := op2E (call1 (fa := dVar 2) (var_eq rfl rfl) rfl (isint_eq (a : Int))) (cE (x := .bl true)) fun P => rfl
  have hrf : dCall0 F_law_refused [some (d0), some (st), some (natD a), some (natD b), some (.n .lst false ((pts a).map natD)), v5, some (.a (.bl (decide (a &&& b = a)))), some (natD n), some (natD (2 ^ n)), v9, v10, some (natD sm), some (.n .lst false (due.map natD)), none] = .ok (.a (.bl true)) [some (d0), some (st), some (natD a), some (natD b), some (.n .lst false ((pts a).map natD)), v5, some (.a (.bl (decide (a &&& b = a)))), some (natD n), some (natD (2 ^ n)), v9, v10, some (natD sm), some (.n .lst false (due.map natD)), none] := by
    unfold dCall0
    rw [refused_eq]
  rw [p_Bind, andVE heq (andVE hin hrf), wo_ok]
  exact ⟨rfl, rfl⟩
end G00
namespace G00
open PySem L2 DL PyProof.Rows
structure TX (P : Program) (K : PySem.W.Frag) (mg : Str → Option Value) : Prop where
  says : DL.SaysY file fa fn es ys K
  pf : P.main.file = file
  pt : (P.main.scope.names.lookup ("super" : Str)).isSome = false
  ex : ∃ h : Heap, K.In h ∧ h.Ns mainGlobals mg
section
variable {P : Program} {K : PySem.W.Frag} {mg : Str → Option Value}
theorem TX.d_law_state (T : TX P K mg) : ∃ fd, FunD K d_law_state.name d_law_state.qual d_law_state.params d_law_state.body d_law_state.scope [] [] (He.fAd K d_law_state.at_) fd := T.says.d.def_ 0 rfl
theorem TX.d_law_members (T : TX P K mg) : ∃ fd, FunD K d_law_members.name d_law_members.qual d_law_members.params d_law_members.body d_law_members.scope [] [] (He.fAd K d_law_members.at_) fd := T.says.d.def_ 1 rfl
theorem TX.d_law_take (T : TX P K mg) : ∃ fd, FunD K d_law_take.name d_law_take.qual d_law_take.params d_law_take.body d_law_take.scope [] [] (He.fAd K d_law_take.at_) fd := T.says.d.def_ 2 rfl
theorem TX.d_set_of (T : TX P K mg) : ∃ fd, FunD K d_set_of.name d_set_of.qual d_set_of.params d_set_of.body d_set_of.scope [] [] (He.fAd K d_set_of.at_) fd := T.says.d.def_ 3 rfl
theorem TX.d_members (T : TX P K mg) : ∃ fd, FunD K d_members.name d_members.qual d_members.params d_members.body d_members.scope [] [] (He.fAd K d_members.at_) fd := T.says.d.def_ 4 rfl
theorem TX.d_lowest (T : TX P K mg) : ∃ fd, FunD K d_lowest.name d_lowest.qual d_lowest.params d_lowest.body d_lowest.scope [] [] (He.fAd K d_lowest.at_) fd := T.says.d.def_ 5 rfl
theorem TX.d_law_refused (T : TX P K mg) : ∃ fd, FunD K d_law_refused.name d_law_refused.qual d_law_refused.params d_law_refused.body d_law_refused.scope [] [] (He.fAd K d_law_refused.at_) fd := T.says.d.def_ 6 rfl
theorem TX.d_count (T : TX P K mg) : ∃ fd, FunD K d_count.name d_count.qual d_count.params d_count.body d_count.scope [] [] (He.fAd K d_count.at_) fd := T.says.d.def_ 7 rfl
theorem TX.d_has (T : TX P K mg) : ∃ fd, FunD K d_has.name d_has.qual d_has.params d_has.body d_has.scope [] [] (He.fAd K d_has.at_) fd := T.says.d.def_ 8 rfl
theorem TX.d_is_part (T : TX P K mg) : ∃ fd, FunD K d_is_part.name d_is_part.qual d_is_part.params d_is_part.body d_is_part.scope [] [] (He.fAd K d_is_part.at_) fd := T.says.d.def_ 9 rfl
theorem TX.d_is_integer (T : TX P K mg) : ∃ fd, FunD K d_is_integer.name d_is_integer.qual d_is_integer.params d_is_integer.body d_is_integer.scope [] [] (He.fAd K d_is_integer.at_) fd := T.says.d.def_ 10 rfl
theorem TX.d_is_set (T : TX P K mg) : ∃ fd, FunD K d_is_set.name d_is_set.qual d_is_set.params d_is_set.body d_is_set.scope [] [] (He.fAd K d_is_set.at_) fd := T.says.d.def_ 11 rfl
theorem TX.d_parts (T : TX P K mg) : ∃ fd, FunD K d_parts.name d_parts.qual d_parts.params d_parts.body d_parts.scope [] [] (He.fAd K d_parts.at_) fd := T.says.d.def_ 12 rfl
theorem TX.d_law (T : TX P K mg) : ∃ fd, FunD K d_law.name d_law.qual d_law.params d_law.body d_law.scope [] [] (He.fAd K d_law.at_) fd := T.says.d.def_ 13 rfl
theorem TX.m_abs (T : TX P K mg) : mg "abs" = none := let ⟨_, X, G⟩ := T.ex; He.free_ok X G (T.says.d.fact 0 rfl)
theorem TX.m_int (T : TX P K mg) : mg "int" = none := let ⟨_, X, G⟩ := T.ex; He.free_ok X G (T.says.d.fact 1 rfl)
theorem TX.m_range (T : TX P K mg) : mg "range" = none := let ⟨_, X, G⟩ := T.ex; He.free_ok X G (T.says.d.fact 2 rfl)
theorem TX.m_tuple (T : TX P K mg) : mg "tuple" = none := let ⟨_, X, G⟩ := T.ex; He.free_ok X G (T.says.d.fact 3 rfl)
theorem TX.m_Refused (T : TX P K mg) : mg "Refused" = some (.ref (He.ga K "Refused")) := let ⟨_, X, G⟩ := T.ex; He.glo_ok X G (T.says.d.fact 4 rfl)
theorem TX.m_super (T : TX P K mg) : mg "super" = none := let ⟨_, X, G⟩ := T.ex; He.free_ok X G (T.says.d.fact 5 rfl)
theorem TX.m_members (T : TX P K mg) : mg "members" = some (.ref (He.fAd K ("members", none))) ∧ PySem.W.keepIn K (.ref (He.fAd K ("members", none))) = true := let ⟨_, X, G⟩ := T.ex; ⟨He.glo_ok X G (T.says.d.fact 6 rfl), let ⟨_, F⟩ := T.d_members; F.kp⟩
theorem TX.m_lowest (T : TX P K mg) : mg "lowest" = some (.ref (He.fAd K ("lowest", none))) ∧ PySem.W.keepIn K (.ref (He.fAd K ("lowest", none))) = true := let ⟨_, X, G⟩ := T.ex; ⟨He.glo_ok X G (T.says.d.fact 7 rfl), let ⟨_, F⟩ := T.d_lowest; F.kp⟩
theorem TX.m_Fault (T : TX P K mg) : mg "Fault" = some (.ref (He.ga K "Fault")) := let ⟨_, X, G⟩ := T.ex; He.glo_ok X G (T.says.d.fact 8 rfl)
theorem TX.xm_Malformed_Fault (T : TX P K mg) : PySem.W.exmOne K (.ref (He.ga K "Malformed")) (.ref (He.ga K "Fault")) = some true := He.exm_ok (T.says.d.fact 9 rfl)
theorem TX.xm_Refused_Fault (T : TX P K mg) : PySem.W.exmOne K (.ref (He.ga K "Refused")) (.ref (He.ga K "Fault")) = some true := He.exm_ok (T.says.d.fact 10 rfl)
theorem TX.xm_NoText_Fault (T : TX P K mg) : PySem.W.exmOne K (.ref (He.ga K "NoText")) (.ref (He.ga K "Fault")) = some true := He.exm_ok (T.says.d.fact 11 rfl)
theorem TX.m_isinstance (T : TX P K mg) : mg "isinstance" = none := let ⟨_, X, G⟩ := T.ex; He.free_ok X G (T.says.d.fact 12 rfl)
theorem TX.n_Refused_reason (T : TX P K mg) : NoAttr K (He.ga K "Refused") "reason" := He.noat_ok (T.says.d.fact 13 rfl)
theorem TX.m_ValueError (T : TX P K mg) : mg "ValueError" = none := let ⟨_, X, G⟩ := T.ex; He.free_ok X G (T.says.d.fact 14 rfl)
theorem TX.m_Malformed (T : TX P K mg) : mg "Malformed" = some (.ref (He.ga K "Malformed")) := let ⟨_, X, G⟩ := T.ex; He.glo_ok X G (T.says.d.fact 15 rfl)
theorem TX.m_NoText (T : TX P K mg) : mg "NoText" = some (.ref (He.ga K "NoText")) := let ⟨_, X, G⟩ := T.ex; He.glo_ok X G (T.says.d.fact 16 rfl)
theorem TX.m_len (T : TX P K mg) : mg "len" = none := let ⟨_, X, G⟩ := T.ex; He.free_ok X G (T.says.d.fact 17 rfl)
theorem TX.m_bool (T : TX P K mg) : mg "bool" = none := let ⟨_, X, G⟩ := T.ex; He.free_ok X G (T.says.d.fact 18 rfl)
theorem TX.m_is_integer (T : TX P K mg) : mg "is_integer" = some (.ref (He.fAd K ("is_integer", none))) ∧ PySem.W.keepIn K (.ref (He.fAd K ("is_integer", none))) = true := let ⟨_, X, G⟩ := T.ex; ⟨He.glo_ok X G (T.says.d.fact 19 rfl), let ⟨_, F⟩ := T.d_is_integer; F.kp⟩
theorem TX.m__law_state (T : TX P K mg) : mg "_law_state" = some (.ref (He.fAd K ("_law_state", none))) ∧ PySem.W.keepIn K (.ref (He.fAd K ("_law_state", none))) = true := let ⟨_, X, G⟩ := T.ex; ⟨He.glo_ok X G (T.says.d.fact 20 rfl), let ⟨_, F⟩ := T.d_law_state; F.kp⟩
theorem TX.m__law_take (T : TX P K mg) : mg "_law_take" = some (.ref (He.fAd K ("_law_take", none))) ∧ PySem.W.keepIn K (.ref (He.fAd K ("_law_take", none))) = true := let ⟨_, X, G⟩ := T.ex; ⟨He.glo_ok X G (T.says.d.fact 21 rfl), let ⟨_, F⟩ := T.d_law_take; F.kp⟩
theorem TX.m__law_members (T : TX P K mg) : mg "_law_members" = some (.ref (He.fAd K ("_law_members", none))) ∧ PySem.W.keepIn K (.ref (He.fAd K ("_law_members", none))) = true := let ⟨_, X, G⟩ := T.ex; ⟨He.glo_ok X G (T.says.d.fact 22 rfl), let ⟨_, F⟩ := T.d_law_members; F.kp⟩
theorem TX.m_count (T : TX P K mg) : mg "count" = some (.ref (He.fAd K ("count", none))) ∧ PySem.W.keepIn K (.ref (He.fAd K ("count", none))) = true := let ⟨_, X, G⟩ := T.ex; ⟨He.glo_ok X G (T.says.d.fact 23 rfl), let ⟨_, F⟩ := T.d_count; F.kp⟩
theorem TX.m_set_of (T : TX P K mg) : mg "set_of" = some (.ref (He.fAd K ("set_of", none))) ∧ PySem.W.keepIn K (.ref (He.fAd K ("set_of", none))) = true := let ⟨_, X, G⟩ := T.ex; ⟨He.glo_ok X G (T.says.d.fact 24 rfl), let ⟨_, F⟩ := T.d_set_of; F.kp⟩
theorem TX.m_has (T : TX P K mg) : mg "has" = some (.ref (He.fAd K ("has", none))) ∧ PySem.W.keepIn K (.ref (He.fAd K ("has", none))) = true := let ⟨_, X, G⟩ := T.ex; ⟨He.glo_ok X G (T.says.d.fact 25 rfl), let ⟨_, F⟩ := T.d_has; F.kp⟩
theorem TX.m_is_part (T : TX P K mg) : mg "is_part" = some (.ref (He.fAd K ("is_part", none))) ∧ PySem.W.keepIn K (.ref (He.fAd K ("is_part", none))) = true := let ⟨_, X, G⟩ := T.ex; ⟨He.glo_ok X G (T.says.d.fact 26 rfl), let ⟨_, F⟩ := T.d_is_part; F.kp⟩
theorem TX.m_is_set (T : TX P K mg) : mg "is_set" = some (.ref (He.fAd K ("is_set", none))) ∧ PySem.W.keepIn K (.ref (He.fAd K ("is_set", none))) = true := let ⟨_, X, G⟩ := T.ex; ⟨He.glo_ok X G (T.says.d.fact 27 rfl), let ⟨_, F⟩ := T.d_is_set; F.kp⟩
theorem TX.m_parts (T : TX P K mg) : mg "parts" = some (.ref (He.fAd K ("parts", none))) ∧ PySem.W.keepIn K (.ref (He.fAd K ("parts", none))) = true := let ⟨_, X, G⟩ := T.ex; ⟨He.glo_ok X G (T.says.d.fact 28 rfl), let ⟨_, F⟩ := T.d_parts; F.kp⟩
theorem TX.m__law_refused (T : TX P K mg) : mg "_law_refused" = some (.ref (He.fAd K ("_law_refused", none))) ∧ PySem.W.keepIn K (.ref (He.fAd K ("_law_refused", none))) = true := let ⟨_, X, G⟩ := T.ex; ⟨He.glo_ok X G (T.says.d.fact 29 rfl), let ⟨_, F⟩ := T.d_law_refused; F.kp⟩
theorem TX.ec_Refused (T : TX P K mg) : ExcC K (He.ga K "Refused") := DL.excCB_ok (T.says.y 0 rfl)
theorem TX.ke_Refused_Refused (T : TX P K mg) : PySem.W.kitOne K (.ref (He.ga K "Refused")) (.ref (He.ga K "Refused")) = some true := of_decide_eq_true (T.says.y 1 rfl)
theorem TX.xf_Refused (T : TX P K mg) : XfC K (He.ga K "Refused") := xfB_ok (T.says.y 2 rfl)
theorem TX.ke_Refused_ValueError (T : TX P K mg) : PySem.W.kitOne K (.ref (He.ga K "Refused")) (.type "ValueError") = some true := of_decide_eq_true (T.says.y 3 rfl)
theorem TX.kt_Refused_Malformed_NoText (T : TX P K mg) : PySem.W.kitAny K (.ref (He.ga K "Refused")) [.ref (He.ga K "Malformed"), .ref (He.ga K "NoText")] = some false := of_decide_eq_true (T.says.y 4 rfl)
theorem TX.r_Refused (T : TX P K mg) (w : World) (base : Heap) : DL.ExS P w K mg base (He.ga K "Refused") "reason" DL.okStr := let ⟨_, _, _, S, F⟩ := T.says.e 0 rfl T.pf T.pt; exS_str (p := "reason") S F T.m_super (by kernel_rfl) (by kernel_rfl) (by kernel_rfl) (by kernel_rfl) ⟨by kernel_rfl, by kernel_rfl⟩ (fun doc pm ctv us hl => match us, hl with | [_, _], _ => by kernel_rfl)
end
theorem sc_law_state : FnScope ["_law_script", "_law_seed", "_law_total", "_law_cell"] ["_law_script"] (defScope s_law_state) := ⟨by kernel_rfl, by kernel_rfl, by kernel_rfl, by decide +kernel, by kernel_rfl, by decide +kernel, by decide +kernel⟩
theorem bi_law_state (kV doc pm : Value) (an : Option Addr) (cdv ct : Value) (us : List Value) (hl : us.length = (["_law_script"] : List Str).length) : bindArgs (PySem.W.fnOf "_law_state" "_law_state" (defArgs s_law_state) (defBody s_law_state) (defScope s_law_state) .none kV doc pm an cdv ct) ⟨us, []⟩ = pure ((["_law_script"] : List Str).zip us) := match us, hl with | [_], _ => by kernel_rfl
theorem sc_law_members : FnScope ["_law_bits", "_law_out", "_law_x"] ["_law_bits"] (defScope s_law_members) := ⟨by kernel_rfl, by kernel_rfl, by kernel_rfl, by decide +kernel, by kernel_rfl, by decide +kernel, by decide +kernel⟩
theorem bi_law_members (kV doc pm : Value) (an : Option Addr) (cdv ct : Value) (us : List Value) (hl : us.length = (["_law_bits"] : List Str).length) : bindArgs (PySem.W.fnOf "_law_members" "_law_members" (defArgs s_law_members) (defBody s_law_members) (defScope s_law_members) .none kV doc pm an cdv ct) ⟨us, []⟩ = pure ((["_law_bits"] : List Str).zip us) := match us, hl with | [_], _ => by kernel_rfl
theorem sc_law_take : FnScope ["_law_state_here", "_law_m", "_law_value"] ["_law_state_here", "_law_m"] (defScope s_law_take) := ⟨by kernel_rfl, by kernel_rfl, by kernel_rfl, by decide +kernel, by kernel_rfl, by decide +kernel, by decide +kernel⟩
theorem bi_law_take (kV doc pm : Value) (an : Option Addr) (cdv ct : Value) (us : List Value) (hl : us.length = (["_law_state_here", "_law_m"] : List Str).length) : bindArgs (PySem.W.fnOf "_law_take" "_law_take" (defArgs s_law_take) (defBody s_law_take) (defScope s_law_take) .none kV doc pm an cdv ct) ⟨us, []⟩ = pure ((["_law_state_here", "_law_m"] : List Str).zip us) := match us, hl with | [_, _], _ => by kernel_rfl
theorem sc_set_of : FnScope ["points", "out", "x"] ["points"] (defScope s_set_of) := ⟨by kernel_rfl, by kernel_rfl, by kernel_rfl, by decide +kernel, by kernel_rfl, by decide +kernel, by decide +kernel⟩
theorem bi_set_of (kV doc pm : Value) (an : Option Addr) (cdv ct : Value) (us : List Value) (hl : us.length = (["points"] : List Str).length) : bindArgs (PySem.W.fnOf "set_of" "set_of" (defArgs s_set_of) (defBody s_set_of) (defScope s_set_of) .none kV doc pm an cdv ct) ⟨us, []⟩ = pure ((["points"] : List Str).zip us) := match us, hl with | [_], _ => by kernel_rfl
theorem sc_members : FnScope ["bits", "x"] ["bits"] (defScope s_members) := ⟨by kernel_rfl, by kernel_rfl, by kernel_rfl, by decide +kernel, by kernel_rfl, by decide +kernel, by decide +kernel⟩
theorem bi_members (kV doc pm : Value) (an : Option Addr) (cdv ct : Value) (us : List Value) (hl : us.length = (["bits"] : List Str).length) : bindArgs (PySem.W.fnOf "members" "members" (defArgs s_members) (defBody s_members) (defScope s_members) .none kV doc pm an cdv ct) ⟨us, []⟩ = pure ((["bits"] : List Str).zip us) := match us, hl with | [_], _ => by kernel_rfl
theorem sc_lowest : FnScope ["bits"] ["bits"] (defScope s_lowest) := ⟨by kernel_rfl, by kernel_rfl, by kernel_rfl, by decide +kernel, by kernel_rfl, by decide +kernel, by decide +kernel⟩
theorem bi_lowest (kV doc pm : Value) (an : Option Addr) (cdv ct : Value) (us : List Value) (hl : us.length = (["bits"] : List Str).length) : bindArgs (PySem.W.fnOf "lowest" "lowest" (defArgs s_lowest) (defBody s_lowest) (defScope s_lowest) .none kV doc pm an cdv ct) ⟨us, []⟩ = pure ((["bits"] : List Str).zip us) := match us, hl with | [_], _ => by kernel_rfl
theorem sc_law_refused : FnScope ["e"] [] (defScope s_law_refused) := ⟨by kernel_rfl, by kernel_rfl, by kernel_rfl, by decide +kernel, by kernel_rfl, by decide +kernel, by decide +kernel⟩
theorem bi_law_refused (kV doc pm : Value) (an : Option Addr) (cdv ct : Value) (us : List Value) (hl : us.length = ([] : List Str).length) : bindArgs (PySem.W.fnOf "_law_refused" "_law_refused" (defArgs s_law_refused) (defBody s_law_refused) (defScope s_law_refused) .none kV doc pm an cdv ct) ⟨us, []⟩ = pure (([] : List Str).zip us) := match us, hl with | [], _ => by kernel_rfl
theorem sc_count : FnScope ["bits"] ["bits"] (defScope s_count) := ⟨by kernel_rfl, by kernel_rfl, by kernel_rfl, by decide +kernel, by kernel_rfl, by decide +kernel, by decide +kernel⟩
theorem bi_count (kV doc pm : Value) (an : Option Addr) (cdv ct : Value) (us : List Value) (hl : us.length = (["bits"] : List Str).length) : bindArgs (PySem.W.fnOf "count" "count" (defArgs s_count) (defBody s_count) (defScope s_count) .none kV doc pm an cdv ct) ⟨us, []⟩ = pure ((["bits"] : List Str).zip us) := match us, hl with | [_], _ => by kernel_rfl
theorem sc_has : FnScope ["bits", "x"] ["bits", "x"] (defScope s_has) := ⟨by kernel_rfl, by kernel_rfl, by kernel_rfl, by decide +kernel, by kernel_rfl, by decide +kernel, by decide +kernel⟩
theorem bi_has (kV doc pm : Value) (an : Option Addr) (cdv ct : Value) (us : List Value) (hl : us.length = (["bits", "x"] : List Str).length) : bindArgs (PySem.W.fnOf "has" "has" (defArgs s_has) (defBody s_has) (defScope s_has) .none kV doc pm an cdv ct) ⟨us, []⟩ = pure ((["bits", "x"] : List Str).zip us) := match us, hl with | [_, _], _ => by kernel_rfl
theorem sc_is_part : FnScope ["one", "two"] ["one", "two"] (defScope s_is_part) := ⟨by kernel_rfl, by kernel_rfl, by kernel_rfl, by decide +kernel, by kernel_rfl, by decide +kernel, by decide +kernel⟩
theorem bi_is_part (kV doc pm : Value) (an : Option Addr) (cdv ct : Value) (us : List Value) (hl : us.length = (["one", "two"] : List Str).length) : bindArgs (PySem.W.fnOf "is_part" "is_part" (defArgs s_is_part) (defBody s_is_part) (defScope s_is_part) .none kV doc pm an cdv ct) ⟨us, []⟩ = pure ((["one", "two"] : List Str).zip us) := match us, hl with | [_, _], _ => by kernel_rfl
theorem sc_is_integer : FnScope ["value"] ["value"] (defScope s_is_integer) := ⟨by kernel_rfl, by kernel_rfl, by kernel_rfl, by decide +kernel, by kernel_rfl, by decide +kernel, by decide +kernel⟩
theorem bi_is_integer (kV doc pm : Value) (an : Option Addr) (cdv ct : Value) (us : List Value) (hl : us.length = (["value"] : List Str).length) : bindArgs (PySem.W.fnOf "is_integer" "is_integer" (defArgs s_is_integer) (defBody s_is_integer) (defScope s_is_integer) .none kV doc pm an cdv ct) ⟨us, []⟩ = pure ((["value"] : List Str).zip us) := match us, hl with | [_], _ => by kernel_rfl
theorem sc_is_set : FnScope ["value", "n"] ["value", "n"] (defScope s_is_set) := ⟨by kernel_rfl, by kernel_rfl, by kernel_rfl, by decide +kernel, by kernel_rfl, by decide +kernel, by decide +kernel⟩
theorem bi_is_set (kV doc pm : Value) (an : Option Addr) (cdv ct : Value) (us : List Value) (hl : us.length = (["value", "n"] : List Str).length) : bindArgs (PySem.W.fnOf "is_set" "is_set" (defArgs s_is_set) (defBody s_is_set) (defScope s_is_set) .none kV doc pm an cdv ct) ⟨us, []⟩ = pure ((["value", "n"] : List Str).zip us) := match us, hl with | [_, _], _ => by kernel_rfl
theorem ip_parts : IsParts (defBody s_parts) := ⟨_, _, _, _, _, _, _, _, _, _, _, _, _, _, _, _, _, _, _, _, _, rfl⟩
theorem bi_parts (kV doc pm : Value) (an : Option Addr) (cdv ct : Value) (us : List Value) (hl : us.length = (["bits"] : List Str).length) : bindArgs (PySem.W.fnOf "parts" "parts" (defArgs s_parts) (defBody s_parts) (defScope s_parts) .none kV doc pm an cdv ct) ⟨us, []⟩ = pure ((["bits"] : List Str).zip us) := match us, hl with | [_], _ => by kernel_rfl
theorem sc_law : FnScope ["_law_script", "_law_state_here", "_law_one", "_law_two", "_law_points", "_law_x", "_law_inside", "_law_n", "_law_limit", "_law_k", "_law_value", "_law_small", "_law_due", "_law_bits"] ["_law_script"] (defScope s_law) := ⟨by kernel_rfl, by kernel_rfl, by kernel_rfl, by decide +kernel, by kernel_rfl, by decide +kernel, by decide +kernel⟩
section
variable {P : Program} {w : World} {K : PySem.W.Frag} {mg : Str → Option Value} {base : Heap}
theorem ok_law_state (T : TX P K mg) : OkC P w K mg base (He.fAd K ("_law_state", none)) ["_law_script"] 1 (spF K (He.ga K) 1 none DC.F_law_state) := fn_okD (kio := none) (body := DC.B_law_state) T.d_law_state sc_law_state bi_law_state fun cdv A outer s H E hr =>
  (dss_cons (ds_set (i := 1) sc_law_state.nd (by kernel_rfl) (.inl (by kernel_rfl)) de_int)
  (dss_cons (ds_set (i := 2) sc_law_state.nd (by kernel_rfl) (.inl (by kernel_rfl)) de_int)
  (dss_cons (ds_for passes_cx rfl (di_of (de_fz (de_slice (de_var (pvl 0)) do_none (do_some de_int)))) (dg_name (i := 3) sc_law_state.nd (by kernel_rfl) (.inl (by kernel_rfl)) (.inl rfl)) (dss_cons (ds_set (i := 1) sc_law_state.nd (by kernel_rfl) (.inl (by kernel_rfl)) (de_add (de_mul (de_var (pvl 1)) de_int) (de_abs gl_of T.m_abs PyProof.Rows.boot_abs (dp_de (de_var (pvl 3))))))
  (dss_one (ds_set (i := 2) sc_law_state.nd (by kernel_rfl) (.inl (by kernel_rfl)) (de_mod (de_intc gl_of T.m_int PySem.Pv.boot_int (dp_de (de_add (de_mul (de_var (pvl 2)) de_int) (de_var (pvl 3))))) de_int)))) (by decide))
  (dss_one (ds_ret (de_lst (da_cons (de_var (pvl 1)) (da_cons (de_var (pvl 2)) da_nil))))))))
theorem ok_law_members (T : TX P K mg) : OkC P w K mg base (He.fAd K ("_law_members", none)) ["_law_bits"] 1 (spF K (He.ga K) 1 none F_law_members) := fn_okD (kio := none) (body := B_law_members) T.d_law_members sc_law_members bi_law_members fun cdv A outer s H E hr =>
  (dss_cons (ds_set (i := 1) sc_law_members.nd (by kernel_rfl) (.inl (by kernel_rfl)) (de_lst da_nil))
  (dss_cons (ds_set (i := 2) sc_law_members.nd (by kernel_rfl) (.inl (by kernel_rfl)) de_int)
  (dss_cons (ds_frzN 1 (ds_while 100000 passes_cx (dt_cr cr_gt (de_var (pvl 0)) de_int) (dss_cons (ds_if (dt_cr (cr_eq hr.units) (de_mod (de_intc gl_of T.m_int PySem.Pv.boot_int (dp_de (de_var (pvl 0)))) de_int) de_int) (dss_one (ds_append (pvl 1) (de_var (pvl 2)))) dss_nil)
  (dss_cons (ds_set (i := 0) sc_law_members.nd (by kernel_rfl) (.inl (by kernel_rfl)) (de_fdiv (de_var (pvl 0)) de_int))
  (dss_one (ds_set (i := 2) sc_law_members.nd (by kernel_rfl) (.inl (by kernel_rfl)) (de_add (de_var (pvl 2)) de_int)))))))
  (dss_one (ds_ret (de_var (pvl 1)))))))
theorem ok_law_take (T : TX P K mg) : OkC P w K mg base (He.fAd K ("_law_take", none)) ["_law_state_here", "_law_m"] 1 (spF K (He.ga K) 2 (some 0) DC.F_law_take) := fn_okD (kio := (some 0)) (body := DC.B_law_take) T.d_law_take sc_law_take bi_law_take fun cdv A outer s H E hr =>
  (dss_cons (ds_if (dt_cr cr_gt (de_ixS (pvl 0) de_int) de_int) (dss_cons (ds_set (i := 2) sc_law_take.nd (by kernel_rfl) (.inl (by kernel_rfl)) (de_mod (de_intc gl_of T.m_int PySem.Pv.boot_int (dp_ixP (dp_peek (pvl 0)) dq_int)) (de_var (pvl 1))))
  (dss_cons (ds_sub (de_fdiv (de_ixS (pvl 0) de_int) (de_var (pvl 1))) (pvl 0) de_int)
  (dss_one (ds_ret (de_var (pvl 2)))))) dss_nil)
  (dss_cons (ds_sub (de_mod (de_intc gl_of T.m_int PySem.Pv.boot_int (dp_de (de_add (de_mul (de_ixS (pvl 0) de_int) de_int) de_int))) de_int) (pvl 0) de_int)
  (dss_one (ds_ret (de_mod (de_intc gl_of T.m_int PySem.Pv.boot_int (dp_de (de_fdiv (de_ixS (pvl 0) de_int) de_int))) (de_var (pvl 1)))))))
theorem ok_set_of (T : TX P K mg) : OkC P w K mg base (He.fAd K ("set_of", none)) ["points"] 1 (spF K (He.ga K) 1 none DC.F_set_of) := fn_okD (kio := none) (body := DC.B_set_of) T.d_set_of sc_set_of bi_set_of fun cdv A outer s H E hr =>
  (dss_cons (ds_set (i := 1) sc_set_of.nd (by kernel_rfl) (.inl (by kernel_rfl)) de_int)
  (dss_cons (ds_for passes_cx rfl (di_of (de_var (pvl 0))) (dg_name (i := 2) sc_set_of.nd (by kernel_rfl) (.inl (by kernel_rfl)) (.inl rfl)) (dss_one (ds_set (i := 1) sc_set_of.nd (by kernel_rfl) (.inl (by kernel_rfl)) (de_or (de_var (pvl 1)) (de_shl de_int (de_var (pvl 2)))))) (by decide))
  (dss_one (ds_ret (de_var (pvl 1))))))
theorem ok_members (T : TX P K mg) : OkC P w K mg base (He.fAd K ("members", none)) ["bits"] 1 (spF K (He.ga K) 1 none DC.F_members) := fn_okD (kio := none) (body := DC.B_members) T.d_members sc_members bi_members fun cdv A outer s H E hr =>
  (dss_one (ds_ret (de_tuple gl_of T.m_tuple PySem.Pv.boot_tuple (dp_de (de_lc (own := [("x", 1)]) rfl sc_members.nd (di_rng1 gl_of T.m_range (de_bits (de_var (pvc 0)))) (blkOk_by (by kernel_rfl)) (by decide) (fun _ _ _ _ _ => (dg_name (i := 1) sc_members.nd (by kernel_rfl) (.inl (by kernel_rfl)) (.inr (by kernel_rfl)))) (fun _ _ _ _ _ => (dts_one (dt_cr (cr_eq hr.units) (de_and (de_shr (de_var (pvc 0)) (de_var (pvl 1))) de_int) de_int))) (fun _ _ _ _ _ => (de_var (pvl 1))))))))
theorem ok_lowest (T : TX P K mg) : OkC P w K mg base (He.fAd K ("lowest", none)) ["bits"] 3 (spF K (He.ga K) 1 none F_lowest) := fn_okD (kio := none) (body := B_lowest) T.d_lowest sc_lowest bi_lowest fun cdv A outer s H E hr =>
  (dss_cons (ds_if (dt_cr (cr_eq hr.units) (de_var (pvl 0)) de_int) (dss_one (ds_raiseV rfl takes_cx (T.r_Refused _ _) (hr.mono (by decide)) gl_of T.m_Refused de_str)) dss_nil)
  (dss_one (ds_ret (de_ix (de_callG (ok_members T) (hr.mono (by decide)) gl_of T.m_members takes_cx (da_cons (de_var (pvl 0)) da_nil)) de_int))))
theorem ok_law_refused (T : TX P K mg) : OkC P w K mg base (He.fAd K ("_law_refused", none)) [] 4 (spF K (He.ga K) 0 none F_law_refused) := fn_okD (kio := none) (body := B_law_refused) T.d_law_refused sc_law_refused bi_law_refused fun cdv A outer s H E hr =>
  (dss_cons (ds_try rfl rfl sc_law_refused.nd takes_cx (fun _ pn xe tk pa => (dss_one (ds_expr (de_callG (ok_lowest T) (hr.mono (by decide)) gl_of T.m_lowest tk (da_cons de_int da_nil))))) (.as (i := 0) ⟨gl_of, by kernel_rfl, .inl T.m_Fault⟩ (matches_cons T.xm_Malformed_Fault (matches_cons T.xm_Refused_Fault (matches_cons T.xm_NoText_Fault matches_nil))) (by kernel_rfl) (by kernel_rfl) (fun a oe cls d pn hz hf => (se_andN (se_isX1 T.ec_Refused T.ke_Refused_Refused hz hf gl_of T.m_isinstance gl_of T.m_Refused (pvl 0)) (se_andN (se_op cr_eqA (se_fld T.xf_Refused T.n_Refused_reason hz hf (pvl 0)) se_str) (se_andN (se_isXT (T := "ValueError") T.ec_Refused T.ke_Refused_ValueError hz hf gl_of T.m_isinstance gl_of T.m_ValueError (by kernel_rfl) (pvl 0)) (se_one (se_not (se_isX2 T.ec_Refused T.kt_Refused_Malformed_NoText hz hf gl_of T.m_isinstance gl_of T.m_Malformed gl_of T.m_NoText (pvl 0)))))))) .nil))
  (dss_one (ds_ret de_bl)))
theorem ok_count (T : TX P K mg) : OkC P w K mg base (He.fAd K ("count", none)) ["bits"] 2 (spF K (He.ga K) 1 none F_count) := fn_okD (kio := none) (body := B_count) T.d_count sc_count bi_count fun cdv A outer s H E hr =>
  (dss_one (ds_ret (de_len gl_of T.m_len PySem.boot_len (dp_de (de_callG (ok_members T) (hr.mono (by decide)) gl_of T.m_members takes_cx (da_cons (de_var (pvl 0)) da_nil))))))
theorem ok_has (T : TX P K mg) : OkC P w K mg base (He.fAd K ("has", none)) ["bits", "x"] 1 (spF K (He.ga K) 2 none DC.F_has) := fn_okD (kio := none) (body := DC.B_has) T.d_has sc_has bi_has fun cdv A outer s H E hr =>
  (dss_one (ds_ret (de_cr (cr_eq hr.units) (de_and (de_shr (de_var (pvl 0)) (de_var (pvl 1))) de_int) de_int)))
theorem ok_is_part (T : TX P K mg) : OkC P w K mg base (He.fAd K ("is_part", none)) ["one", "two"] 1 (spF K (He.ga K) 2 none DC.F_is_part) := fn_okD (kio := none) (body := DC.B_is_part) T.d_is_part sc_is_part bi_is_part fun cdv A outer s H E hr =>
  (dss_one (ds_ret (de_cr (cr_eq hr.units) (de_and (de_var (pvl 0)) (de_var (pvl 1))) (de_var (pvl 0)))))
theorem ok_is_integer (T : TX P K mg) : OkC P w K mg base (He.fAd K ("is_integer", none)) ["value"] 1 (spF K (He.ga K) 1 none DC.F_is_integer) := fn_okD (kio := none) (body := DC.B_is_integer) T.d_is_integer sc_is_integer bi_is_integer fun cdv A outer s H E hr =>
  (dss_one (ds_ret (de_and2 (de_isi (T := "int") gl_of T.m_isinstance gl_of T.m_int PySem.Pv.boot_int (by decide) (dp_de (de_var (pvl 0)))) (de_one (de_notV (de_isi (T := "bool") gl_of T.m_isinstance gl_of T.m_bool PySem.Pv.boot_bool (by decide) (dp_de (de_var (pvl 0)))))))))
theorem ok_is_set (T : TX P K mg) : OkC P w K mg base (He.fAd K ("is_set", none)) ["value", "n"] 2 (spF K (He.ga K) 2 none DC.F_is_set) := fn_okD (kio := none) (body := DC.B_is_set) T.d_is_set sc_is_set bi_is_set fun cdv A outer s H E hr =>
  (dss_one (ds_ret (de_and2 (de_callG (ok_is_integer T) (hr.mono (by decide)) gl_of T.m_is_integer takes_cx (da_cons (de_var (pvl 0)) da_nil)) (de_one (de_chain cr_le cr_lt de_int (de_var (pvl 0)) (de_shl de_int (de_var (pvl 1))))))))
theorem ok_law (T : TX P K mg) {fd : FuncData} {fa : Addr} (FD : FunD K d_law.name d_law.qual d_law.params d_law.body d_law.scope [] [] fa fd) : FnOk P w K mg base (L2.CX P w) 5 fa fd ["_law_script"] (spF K (He.ga K) 1 none F_law) := fn_okF (kio := none) (body := B_law) FD sc_law fun cdv A outer s H E hr =>
  (dss_cons (ds_set (i := 1) sc_law.nd (by kernel_rfl) (.inl (by kernel_rfl)) (de_callG (ok_law_state T) (hr.mono (by decide)) gl_of T.m__law_state takes_cx (da_cons (de_var (pvl 0)) da_nil)))
  (dss_cons (ds_asg (dg_tup rfl (.cons (pg_name (i := 2) sc_law.nd (by kernel_rfl) (.inl (by kernel_rfl)) (.inl rfl)) (.cons (pg_name (i := 3) sc_law.nd (by kernel_rfl) (.inr (by kernel_rfl)) (.inl rfl)) .nil (by kernel_rfl)) (by kernel_rfl)) rfl) (de_fz (de_tup (da_cons (de_callLG (ok_law_take T) (hr.mono (by decide)) gl_of T.m__law_take takes_cx (da_lent (pvl 1) (da_cons de_int da_nil))) (da_cons (de_callLG (ok_law_take T) (hr.mono (by decide)) gl_of T.m__law_take takes_cx (da_lent (pvl 1) (da_cons de_int da_nil))) da_nil)))) (by decide))
  (dss_cons (ds_set (i := 4) sc_law.nd (by kernel_rfl) (.inr (by kernel_rfl)) (de_fz (de_callG (ok_law_members T) (hr.mono (by decide)) gl_of T.m__law_members takes_cx (da_cons (de_var (pvl 2)) da_nil))))
  (dss_cons (ds_if (dt_w (dw_or (dt_cr (cr_ne hr.units) (de_callG (ok_members T) (hr.mono (by decide)) gl_of T.m_members takes_cx (da_cons (de_var (pvl 2)) da_nil)) (de_tuple gl_of T.m_tuple PySem.Pv.boot_tuple (dp_de (de_var (pvc 4))))) (dw_or (dt_cr (cr_ne hr.units) (de_callG (ok_count T) (hr.mono (by decide)) gl_of T.m_count takes_cx (da_cons (de_var (pvl 2)) da_nil)) (de_len gl_of T.m_len PySem.boot_len (dp_de (de_var (pvc 4))))) (dw_or (dt_cr (cr_ne hr.units) (de_callG (ok_set_of T) (hr.mono (by decide)) gl_of T.m_set_of takes_cx (da_cons (de_var (pvc 4)) da_nil)) (de_var (pvl 2))) (dw_or1 (dt_cr (cr_ne hr.units) (de_callG (ok_set_of T) (hr.mono (by decide)) gl_of T.m_set_of takes_cx (da_cons (de_add (de_tuple gl_of T.m_tuple PySem.Pv.boot_tuple (dp_de (de_var (pvc 4)))) (de_tuple gl_of T.m_tuple PySem.Pv.boot_tuple (dp_de (de_slice (de_var (pvc 4)) do_none (do_some de_int))))) da_nil)) (de_var (pvl 2)))))))) (dss_one (ds_ret de_bl)) dss_nil)
  (dss_cons (ds_if (dt_w (dw_and (dt_cr cr_gt (de_len gl_of T.m_len PySem.boot_len (dp_de (de_var (pvc 4)))) de_int) (dw_and1 (dt_cr (cr_ne hr.units) (de_callG (ok_lowest T) (hr.mono (by decide)) gl_of T.m_lowest takes_cx (da_cons (de_var (pvl 2)) da_nil)) (de_ix (de_var (pvc 4)) de_int))))) (dss_one (ds_ret de_bl)) dss_nil)
  (dss_cons (ds_for passes_cx rfl (di_rng1 gl_of T.m_range de_int) (dg_name (i := 5) sc_law.nd (by kernel_rfl) (.inl (by kernel_rfl)) (.inl rfl)) (dss_one (ds_if (dt_cr (cr_ne hr.units) (de_callG (ok_has T) (hr.mono (by decide)) gl_of T.m_has takes_cx (da_cons (de_var (pvl 2)) (da_cons (de_var (pvl 5)) da_nil))) (de_in (room_u1 hr) (de_var (pvl 5)) (dp_de (de_var (pvc 4))))) (dss_one (ds_ret de_bl)) dss_nil)) (by decide))
  (dss_cons (ds_set (i := 6) sc_law.nd (by kernel_rfl) (.inl (by kernel_rfl)) (de_cr (cr_eq hr.units) (de_len gl_of T.m_len PySem.boot_len (dp_de (de_lc (own := [("_law_x", 5)]) rfl sc_law.nd (di_of (de_var (pvc 4))) (blkOk_by (by kernel_rfl)) (by decide) (fun _ _ _ _ _ => (dg_name (i := 5) sc_law.nd (by kernel_rfl) (.inl (by kernel_rfl)) (.inr (by kernel_rfl)))) (fun _ _ _ _ _ => (dts_one (dt_notin (room_u1 hr) (de_var (pvl 5)) (dp_de (de_callG (ok_law_members T) (hr.mono (by decide)) gl_of T.m__law_members takes0 (da_cons (de_var (pvc 3)) da_nil)))))) (fun _ _ _ _ _ => (de_var (pvl 5)))))) de_int))
  (dss_cons (ds_if (dt_w (dw_or (dt_cr (cr_ne hr.units) (de_callG (ok_is_part T) (hr.mono (by decide)) gl_of T.m_is_part takes_cx (da_cons (de_var (pvl 2)) (da_cons (de_var (pvc 3)) da_nil))) (de_var (pvl 6))) (dw_or (dt_cr cr_isnot (de_callG (ok_is_part T) (hr.mono (by decide)) gl_of T.m_is_part takes_cx (da_cons (de_var (pvl 2)) (da_cons (de_var (pvl 2)) da_nil))) de_bl) (dw_or1 (dt_cr cr_isnot (de_callG (ok_is_part T) (hr.mono (by decide)) gl_of T.m_is_part takes_cx (da_cons de_int (da_cons (de_var (pvc 3)) da_nil))) de_bl))))) (dss_one (ds_ret de_bl)) dss_nil)
  (dss_cons (ds_frzN 1 (ds_set (i := 7) sc_law.nd (by kernel_rfl) (.inl (by kernel_rfl)) (de_callLG (ok_law_take T) (hr.mono (by decide)) gl_of T.m__law_take takes_cx (da_lent (pvl 1) (da_cons de_int da_nil)))))
  (dss_cons (ds_set (i := 8) sc_law.nd (by kernel_rfl) (.inl (by kernel_rfl)) de_int)
  (dss_cons (ds_for passes_cx rfl (di_rng1 gl_of T.m_range (de_var (pvl 7))) (dg_name (i := 9) sc_law.nd (by kernel_rfl) (.inl (by kernel_rfl)) (.inl rfl)) (dss_one (ds_set (i := 8) sc_law.nd (by kernel_rfl) (.inl (by kernel_rfl)) (de_mul (de_var (pvl 8)) de_int))) (by decide))
  (dss_cons (ds_if (dt_w (dw_or (dt_cr (cr_ne hr.units) (de_callG (ok_is_set T) (hr.mono (by decide)) gl_of T.m_is_set takes_cx (da_cons (de_var (pvl 2)) (da_cons (de_var (pvl 7)) da_nil))) (de_cr cr_lt (de_var (pvl 2)) (de_var (pvl 8)))) (dw_or (dt_cr cr_isnot (de_callG (ok_is_set T) (hr.mono (by decide)) gl_of T.m_is_set takes_cx (da_cons (de_var (pvl 8)) (da_cons (de_var (pvl 7)) da_nil))) de_bl) (dw_or1 (dt_cr cr_isnot (de_callG (ok_is_set T) (hr.mono (by decide)) gl_of T.m_is_set takes_cx (da_cons (de_neg de_int) (da_cons (de_var (pvl 7)) da_nil))) de_bl))))) (dss_one (ds_ret de_bl)) dss_nil)
  (dss_cons (ds_for passes_cx rfl (di_of (de_fz (de_lst (da_cons de_non (da_cons de_bl (da_cons de_str (da_cons (de_tup (da_cons de_int da_nil)) da_nil))))))) (dg_name (i := 10) sc_law.nd (by kernel_rfl) (.inl (by kernel_rfl)) (.inl rfl)) (dss_one (ds_if (dt_w (dw_or (dt_cr cr_isnot (de_callG (ok_is_set T) (hr.mono (by decide)) gl_of T.m_is_set takes_cx (da_cons (de_var (pvl 10)) (da_cons (de_var (pvl 7)) da_nil))) de_bl) (dw_or1 (dt_cr cr_isnot (de_callG (ok_is_integer T) (hr.mono (by decide)) gl_of T.m_is_integer takes_cx (da_cons (de_var (pvl 10)) da_nil)) de_bl)))) (dss_one (ds_ret de_bl)) dss_nil)) (by decide))
  (dss_cons (ds_set (i := 11) sc_law.nd (by kernel_rfl) (.inl (by kernel_rfl)) (de_callG (ok_set_of T) (hr.mono (by decide)) gl_of T.m_set_of takes_cx (da_cons (de_slice (de_var (pvc 4)) do_none (do_some de_int)) da_nil)))
  (dss_cons (ds_frzN 12 (ds_setLc (i := 12) (own := [("_law_bits", 13)]) rfl sc_law.nd (by kernel_rfl) (by kernel_rfl) (sw_true (by kernel_rfl) (by kernel_rfl) (by kernel_rfl) (by kernel_rfl)) (di_rng1 gl_of T.m_range (de_add (de_var (pvl 11)) de_int)) (blkOk_by (by kernel_rfl)) (by decide) (fun _ _ _ _ _ => (dg_name (i := 13) sc_law.nd (by kernel_rfl) (.inl (by kernel_rfl)) (.inr (by kernel_rfl)))) (fun _ _ _ _ _ => (dts_one (dt_cr (cr_eq hr.units) (de_len gl_of T.m_len PySem.boot_len (dp_de (de_lc (own := [("_law_x", 5)]) rfl sc_law.nd (di_of (de_fz (de_callG (ok_law_members T) (hr.mono (by decide)) gl_of T.m__law_members takes0 (da_cons (de_var (pvl 13)) da_nil)))) (blkOk_by (by kernel_rfl)) (by decide) (fun _ _ _ _ _ => (dg_name (i := 5) sc_law.nd (by kernel_rfl) (.inl (by kernel_rfl)) (.inr (by kernel_rfl)))) (fun _ _ _ _ _ => (dts_one (dt_notin (room_u1 hr) (de_var (pvl 5)) (dp_de (de_slice (de_var (pvc 4)) do_none (do_some de_int)))))) (fun _ _ _ _ _ => (de_var (pvl 5)))))) de_int))) (fun _ _ _ _ _ => (de_var (pvl 13)))))
  (dss_one (ds_ret (de_and2 (de_cr (cr_eq hr.units) (de_parts (own := [("_law_bits", 13)]) rfl sc_law.nd (blkOk_by (by kernel_rfl)) (by kernel_rfl) (hxo_of (i := 13) sc_law.nd (by kernel_rfl)) (de_var (pvl 11)) T.d_parts ip_parts (by kernel_rfl) (by kernel_rfl) (by kernel_rfl) (by kernel_rfl) (by kernel_rfl) (fun _ _ => by kernel_rfl) bi_parts hr gl_of T.m_parts) (de_var (pvl 12))) (de_and2 (de_cr cr_is (de_callG (ok_is_integer T) (hr.mono (by decide)) gl_of T.m_is_integer takes_cx (da_cons (de_var (pvl 2)) da_nil)) de_bl) (de_one (de_call0G (ok_law_refused T) (hr.mono (by decide)) gl_of T.m__law_refused takes_cx)))))))))))))))))))))
end
end G00
namespace G00
open PySem L2 DL PyProof.Rows
theorem facts {P : Program} {w : World} {K : PySem.W.Frag} {h : Heap} {mg : Str → Option Value} {f : Addr} (X : K.In h) (G : h.Ns mainGlobals mg) (hfa : mg ("law" : Str) = some (.ref f)) (c : DL.SaysY file fa fn es ys K) (hpf : P.main.file = file) (hpt : (P.main.scope.names.lookup ("super" : Str)).isSome = false) :
    ∃ fd : FuncData, (∀ (s : Shared) (v : Value), BindsTo s fd ⟨[v], []⟩ [("_law_script", v)]) ∧ ∀ base : Heap, K.In base → base.Ns mainGlobals mg → FnOk P w K mg base (L2.CX P w) 5 f fd ["_law_script"] (spF K (He.ga K) 1 none F_law) := by
  have T : TX P K mg := ⟨c, hpf, hpt, h, X, G⟩
  obtain ⟨fd, F⟩ := T.d_law
  have e := hfa.symm.trans (He.glo_ok X G (c.d.fact 30 (f := .glo "law") rfl))
  cases e
  have b := FunD.bindsA (ps := ["_law_script"]) F fun _ _ _ _ _ _ us hl => match us, hl with | [_], _ => by kernel_rfl
  exact ⟨fd, fun s v => b s [v] rfl, fun base _ _ => ok_law T F⟩
end G00
open PySem PySem.W PySem.Calls PyProof.Rows
set_option maxRecDepth 100000 in
set_option maxHeartbeats 0 in
theorem PySem.Challenge.cw_orderforms_k00_sets_as_bits_holds : PySem.Challenge.rw_orderforms_k00_sets_as_bits.Holds := by
  w_on; o_law
  refine HandSHeadRun.head_any (r := OpenLaw.row PySem.Challenge.rw_orderforms_k00_sets_as_bits) (q := view (OpenLaw.row PySem.Challenge.rw_orderforms_k00_sets_as_bits).prog [20]) (H := G00.hk) (ob := G00.ob) (M := 6000) (loose := G00.names) (d := HandSHeadRun.topDef (OpenLaw.row PySem.Challenge.rw_orderforms_k00_sets_as_bits).prog 20) (kwd := []) G00.ob_eq
    (by kernel_rfl) (fun s => by kernel_rfl) G00.run (by kernel_rfl) (by kernel_rfl) (by kernel_rfl) (by rfl) (by first | assumption | decide +kernel) (by decide +kernel) ⟨rfl, rfl, rfl, rfl, rfl, by decide +kernel⟩ ?hw ?hc
  case hw => w_witness2
  case hc =>
    refine DL.law_end (l := PySem.Challenge.rw_orderforms_k00_sets_as_bits) (k := 5) (x := "_law_script") (cA := He.ga) (F := G00.F_law) rfl (by kernel_rfl) ⟨rfl, by decide, by decide⟩ ?HF G00.law_true
    intro w mg fa h Y G hmg0
    obtain ⟨K, KX, c⟩ := Y
    have hmg : mg ("law" : PySem.Str) = some (.ref fa) := by
      have e : (HandSHeadRun.topDef (OpenLaw.row PySem.Challenge.rw_orderforms_k00_sets_as_bits).prog 20).name = ("law" : PySem.Str) := by kernel_rfl
      rw [← e]
      exact hmg0
    obtain ⟨fd, hb, hF⟩ := G00.facts (P := (PySem.Challenge.rw_orderforms_k00_sets_as_bits).prog) (w := w) KX G hmg c (by kernel_rfl) (by kernel_rfl)
    exact ⟨K, fd, KX, hb, hF⟩
