import PyProof.Rows.All
import Wide.All
import OpenK.AllK
import Wide.FinOn
import HandS.ForMost
import HandS.ForExc
import HandS.Deep
import HandS.TupAny
import HandS.Style
import HandS.WideBits
import HandS.IsInst
import HandS.Text
import HandS.Iter
import HandS.HeadEnd
import HandS.HeadHook2
import HandS.EndBits
import HandS.SortInts
import HandS.Conv
import HandS.More
import HandS.Head0
import HandS.Head1
import HandS.Head2
import HandS.Nested
import HandS.ExcInit
import KE.KExcSuper
import HandS.TryMany
import HandS.ExcField
import HandS.ExcIs
import HandS.ExcOwn
import HandS.Strs
import HandS.List
import OpenK.KMeth
import KE.KOpsOwn
import KE.KTupSum
import KE.GoesEnum
import HandS.TupSets
import HandS.DictComp
import HandS.TupMul
import KE.OsArith
import KE.BitLaws
import KE.IntBitsLaws
import PySem.Challenge.RW_orderforms_k11_whole_matchings_and_cover
import HandS.HeadHook1
set_option Elab.async false
set_option linter.all false
set_option maxRecDepth 100000
set_option maxHeartbeats 0
namespace DL
open PySem L2
inductive At where
  | non | bl (b : Bool) | int (i : Int) | str (s : Str)
  deriving DecidableEq
def At.v : At → V
  | .non => V.non
  | .bl b => V.bl b
  | .int i => V.int i
  | .str s => V.str s
inductive Kd where
  | tup | lst | scr | dct (ks : List Key) | ins (C : Str) (fs : List Str)
  deriving DecidableEq
inductive D where
  | a (x : At)
  | n (k : Kd) (o : Bool) (xs : List D)
abbrev D.int (i : Int) : D := .a (.int i)
abbrev D.bl (b : Bool) : D := .a (.bl b)
abbrev D.str (s : Str) : D := .a (.str s)
abbrev D.non : D := .a .non
abbrev D.tup (xs : List D) : D := .n .tup false xs
abbrev D.lst (o : Bool) (xs : List D) : D := .n .lst o xs
abbrev D.scr (xs : List D) : D := .n .scr false xs
mutual
def frz : D → D
  | .a x => .a x
  | .n k _ xs => .n k false (frzL xs)
def frzL : List D → List D
  | [] => []
  | x :: xs => frz x :: frzL xs
end
mutual
def isF : D → Bool
  | .a _ => true
  | .n _ o xs => !o && isFL xs
def isFL : List D → Bool
  | [] => true
  | x :: xs => isF x && isFL xs
end
mutual
theorem isF_frz : ∀ d : D, isF (frz d) = true
  | .a _ => rfl
  | .n k o xs => by
    show (!false && isFL (frzL xs)) = true
    rw [isFL_frzL xs]; rfl
theorem isFL_frzL : ∀ xs : List D, isFL (frzL xs) = true
  | [] => rfl
  | x :: xs => by
    show (isF (frz x) && isFL (frzL xs)) = true
    rw [isF_frz x, isFL_frzL xs]; rfl
end
mutual
theorem frz_isF : ∀ d : D, isF d = true → frz d = d
  | .a _, _ => rfl
  | .n k o xs, h => by
    have h : (!o && isFL xs) = true := h
    rw [Bool.and_eq_true] at h
    have ho : o = false := by simpa using h.1
    subst ho
    show D.n k false (frzL xs) = _
    rw [frzL_isFL xs h.2]
theorem frzL_isFL : ∀ xs : List D, isFL xs = true → frzL xs = xs
  | [], _ => rfl
  | x :: xs, h => by
    have h : (isF x && isFL xs) = true := h
    rw [Bool.and_eq_true] at h
    show frz x :: frzL xs = _
    rw [frz_isF x h.1, frzL_isFL xs h.2]
end
abbrev FP := List Addr
abbrev ZS := Addr → Prop
def KT (K : PySem.W.Frag) (a : Addr) (xs : List V) : Prop :=
  ∃ (o : Obj) (its : Array Value) (n : Nat), K.lookup a = some o ∧ o.cls = .type "tuple" ∧ o.data = .seq its n ∧ its.size ≤ sizeLine ∧ Vals xs its.toList
def KLs (K : PySem.W.Frag) (a : Addr) (xs : List V) : Prop :=
  ∃ (o : Obj) (its : Array Value) (n : Nat), K.lookup a = some o ∧ o.cls = .type "list" ∧ o.dict = none ∧ o.data = .seq its n ∧ its.size ≤ sizeLine ∧ Vals xs its.toList
def Cont (K : PySem.W.Frag) (cA : Str → Addr) (H : Hp) (Z : ZS) (p : Addr) (vs : List V) : Kd → Bool → Prop
  | .tup, o => o = false ∧ ((Z p ∧ Rd H p (.tup vs)) ∨ KT K p vs)
  | .scr, o => o = false ∧ ((Z p ∧ Rd H p (.lst vs)) ∨ KLs K p vs)
  | .lst, o => H p = some (.lst vs) ∧ (o = false → Z p)
  | .dct ks, o => H p = some (.dK (ks.zip vs)) ∧ ks.length = vs.length ∧ (o = false → Z p)
  | .ins C fs, o => (∃ dx, H p = some (.ins (cA C) dx (fs.zip vs))) ∧ (fs.length = vs.length ∧ Cls K (cA C) ∧ ∀ f ∈ fs, NoAttr K (cA C) f) ∧ (o = false → Z p)
section
variable (K : PySem.W.Frag) (cA : Str → Addr) (H : Hp) (Z : ZS)
mutual
def RepD : D → V → FP → Prop
  | .a x, v, fp => v = x.v ∧ fp = []
  | .n k o xs, v, fp => ∃ p vs g, v = .ref p ∧ RepL xs vs g ∧ Cont K cA H Z p vs k o ∧ fp = (if o then p :: g else []) ∧ (o = false → g = [])
def RepL : List D → List V → FP → Prop
  | [], vs, g => vs = [] ∧ g = []
  | x :: xs, vs, g => ∃ v vs' f1 f2, vs = v :: vs' ∧ RepD x v f1 ∧ RepL xs vs' f2 ∧ g = f1 ++ f2
end
end
section
variable {K : PySem.W.Frag} {cA : Str → Addr} {H H' : Hp} {Z Z' : ZS}
theorem rd_mono {p : Addr} {u : HO} (hk : ∀ o, H p = some o → H' p = some o) (h : Rd H p u) : Rd H' p u := by
  rcases h with h | ⟨o, h⟩
  · exact .inl (hk _ h)
  · exact .inr ⟨o, hk _ h⟩
theorem cont_mono {p : Addr} {vs : List V} {k : Kd} {o : Bool} (hz : ∀ a, Z a → Z' a) (hk : ∀ u, (Z p ∨ o = true) → H p = some u → H' p = some u) (h : Cont K cA H Z p vs k o) : Cont K cA H' Z' p vs k o := by
  have h1 : (o = false → Z p) → ∀ u, H p = some u → H' p = some u := fun z u e => by
    cases o with
    | true => exact hk u (.inr rfl) e
    | false => exact hk u (.inl (z rfl)) e
  cases k with
  | tup =>
    obtain ⟨ho, h⟩ := h
    refine ⟨ho, ?_⟩
    rcases h with ⟨z, r⟩ | h
    · exact .inl ⟨hz _ z, rd_mono (fun u e => hk u (.inl z) e) r⟩
    · exact .inr h
  | scr =>
    obtain ⟨ho, h⟩ := h
    refine ⟨ho, ?_⟩
    rcases h with ⟨z, r⟩ | h
    · exact .inl ⟨hz _ z, rd_mono (fun u e => hk u (.inl z) e) r⟩
    · exact .inr h
  | lst =>
    obtain ⟨e, z⟩ := h
    exact ⟨h1 z _ e, fun q => hz _ (z q)⟩
  | dct ks =>
    obtain ⟨e, l, z⟩ := h
    exact ⟨h1 z _ e, l, fun q => hz _ (z q)⟩
  | ins C fs =>
    obtain ⟨⟨dx, e⟩, l, z⟩ := h
    exact ⟨⟨dx, h1 z _ e⟩, l, fun q => hz _ (z q)⟩
mutual
theorem repD_mono : ∀ (d : D) {v : V} {fp : FP}, (∀ a, Z a → Z' a) → (∀ a o, (Z a ∨ a ∈ fp) → H a = some o → H' a = some o) → RepD K cA H Z d v fp → RepD K cA H' Z' d v fp
  | .a x, _, _, _, _, h => h
  | .n k o xs, v, fp, hz, hk, h => by
    obtain ⟨p, vs, g, e, hl, hc, ef, hg⟩ := h
    subst ef
    refine ⟨p, vs, g, e, repL_mono xs hz (fun a u m => hk a u ?_) hl, cont_mono hz (fun u m => hk p u ?_) hc, rfl, hg⟩
    · cases o with
      | true => exact m.imp id fun z => by simp [z]
      | false =>
        rw [hg rfl] at m
        exact m.imp id fun z => by simp at z
    · exact m.imp id fun z => by simp [z]
theorem repL_mono : ∀ (xs : List D) {vs : List V} {fp : FP}, (∀ a, Z a → Z' a) → (∀ a o, (Z a ∨ a ∈ fp) → H a = some o → H' a = some o) → RepL K cA H Z xs vs fp → RepL K cA H' Z' xs vs fp
  | [], _, _, _, _, h => h
  | x :: xs, vs, fp, hz, hk, h => by
    obtain ⟨v, vs', f1, f2, e, h1, h2, ef⟩ := h
    subst ef
    exact ⟨v, vs', f1, f2, e, repD_mono x hz (fun a u m => hk a u (m.imp id fun z => by simp [z])) h1, repL_mono xs hz (fun a u m => hk a u (m.imp id fun z => by simp [z])) h2, rfl⟩
end
mutual
theorem repD_trk : ∀ (d : D) {v : V} {fp : FP}, RepD K cA H Z d v fp → ∀ a ∈ fp, ∃ o, H a = some o
  | .a x, _, _, h, a, ha => by
    rw [h.2] at ha; cases ha
  | .n k o xs, v, fp, h, a, ha => by
    obtain ⟨p, vs, g, e, hl, hc, ef, hg⟩ := h
    subst ef
    cases o with
    | false => simp at ha
    | true =>
      rcases List.mem_cons.mp ha with rfl | ha
      · cases k with
        | tup => exact absurd hc.1 (by decide)
        | scr => exact absurd hc.1 (by decide)
        | lst => exact ⟨_, hc.1⟩
        | dct ks => exact ⟨_, hc.1⟩
        | ins C fs => exact let ⟨dx, e⟩ := hc.1; ⟨_, e⟩
      · exact repL_trk xs hl a ha
theorem repL_trk : ∀ (xs : List D) {vs : List V} {fp : FP}, RepL K cA H Z xs vs fp → ∀ a ∈ fp, ∃ o, H a = some o
  | [], _, _, h, a, ha => by
    rw [h.2] at ha; cases ha
  | x :: xs, vs, fp, h, a, ha => by
    obtain ⟨v, vs', f1, f2, e, h1, h2, ef⟩ := h
    subst ef
    rcases List.mem_append.mp ha with ha | ha
    · exact repD_trk x h1 a ha
    · exact repL_trk xs h2 a ha
end
mutual
theorem repD_isF : ∀ (d : D) {v : V} {fp : FP}, RepD K cA H Z d v fp → isF d = true → fp = []
  | .a x, _, _, h, _ => h.2
  | .n k o xs, v, fp, h, hf => by
    obtain ⟨p, vs, g, e, hl, hc, ef, hg⟩ := h
    have hf : (!o && isFL xs) = true := hf
    rw [Bool.and_eq_true] at hf
    have ho : o = false := by simpa using hf.1
    subst ho
    exact ef
theorem repL_isF : ∀ (xs : List D) {vs : List V} {fp : FP}, RepL K cA H Z xs vs fp → isFL xs = true → fp = []
  | [], _, _, h, _ => h.2
  | x :: xs, vs, fp, h, hf => by
    obtain ⟨v, vs', f1, f2, e, h1, h2, ef⟩ := h
    have hf : (isF x && isFL xs) = true := hf
    rw [Bool.and_eq_true] at hf
    rw [ef, repD_isF x h1 hf.1, repL_isF xs h2 hf.2]; rfl
end
mutual
theorem repD_frz : ∀ (d : D) {v : V} {fp : FP}, (∀ a, Z a → Z' a) → (∀ a ∈ fp, Z' a) → RepD K cA H Z d v fp → RepD K cA H Z' (frz d) v []
  | .a x, _, _, _, _, h => ⟨h.1, rfl⟩
  | .n k o xs, v, fp, hz, hf, h => by
    obtain ⟨p, vs, g, e, hl, hc, ef, hg⟩ := h
    subst ef
    have hgz : ∀ a ∈ g, Z' a := fun a ha => by
      cases o with
      | true => exact hf a (by simp [ha])
      | false => rw [hg rfl] at ha; cases ha
    have hp : o = true → Z' p := fun e => hf p (by simp [e])
    refine ⟨p, vs, [], e, repL_frz xs hz hgz hl, ?_, rfl, fun _ => rfl⟩
    have key : (o = false → Z p) → Z' p := fun z => by
      cases o with
      | true => exact hp rfl
      | false => exact hz _ (z rfl)
    cases k with
    | tup =>
      obtain ⟨_, h⟩ := hc
      refine ⟨rfl, ?_⟩
      rcases h with ⟨z, r⟩ | h
      · exact .inl ⟨hz _ z, r⟩
      · exact .inr h
    | scr =>
      obtain ⟨_, h⟩ := hc
      refine ⟨rfl, ?_⟩
      rcases h with ⟨z, r⟩ | h
      · exact .inl ⟨hz _ z, r⟩
      · exact .inr h
    | lst => exact ⟨hc.1, fun _ => key hc.2⟩
    | dct ks => exact ⟨hc.1, hc.2.1, fun _ => key hc.2.2⟩
    | ins C fs => exact ⟨hc.1, hc.2.1, fun _ => key hc.2.2⟩
theorem repL_frz : ∀ (xs : List D) {vs : List V} {fp : FP}, (∀ a, Z a → Z' a) → (∀ a ∈ fp, Z' a) → RepL K cA H Z xs vs fp → RepL K cA H Z' (frzL xs) vs []
  | [], _, _, _, _, h => ⟨h.1, rfl⟩
  | x :: xs, vs, fp, hz, hf, h => by
    obtain ⟨v, vs', f1, f2, e, h1, h2, ef⟩ := h
    subst ef
    exact ⟨v, vs', [], [], e, repD_frz x hz (fun a ha => hf a (by simp [ha])) h1, repL_frz xs hz (fun a ha => hf a (by simp [ha])) h2, rfl⟩
end
theorem repL_len : ∀ {xs : List D} {vs : List V} {fp : FP}, RepL K cA H Z xs vs fp → vs.length = xs.length
  | [], _, _, h => by rw [h.1]; rfl
  | x :: xs, vs, fp, h => by
    obtain ⟨v, vs', f1, f2, e, h1, h2, ef⟩ := h
    rw [e, List.length_cons, List.length_cons, repL_len h2]
theorem repL_get : ∀ {xs : List D} {vs : List V} {fp : FP} {i : Nat} {d : D}, RepL K cA H Z xs vs fp → xs[i]? = some d → ∃ v f0 f1 f2, vs[i]? = some v ∧ RepD K cA H Z d v f1 ∧ fp = f0 ++ f1 ++ f2
  | [], _, _, _, _, _, e => by simp at e
  | x :: xs, vs, fp, 0, d, h, e => by
    obtain ⟨v, vs', f1, f2, ev, h1, h2, ef⟩ := h
    simp at e; subst e
    exact ⟨v, [], f1, f2, by rw [ev]; rfl, h1, by simpa using ef⟩
  | x :: xs, vs, fp, i + 1, d, h, e => by
    obtain ⟨v, vs', f1, f2, ev, h1, h2, ef⟩ := h
    obtain ⟨w, g0, g1, g2, hw, hr, hg⟩ := repL_get (i := i) h2 (by simpa using e)
    refine ⟨w, f1 ++ g0, g1, g2, by rw [ev]; simpa using hw, hr, ?_⟩
    rw [ef, hg]; simp
theorem repL_append : ∀ {xs ys : List D} {vs ws : List V} {f g : FP}, RepL K cA H Z xs vs f → RepL K cA H Z ys ws g → RepL K cA H Z (xs ++ ys) (vs ++ ws) (f ++ g)
  | [], ys, vs, ws, f, g, h, k => by
    rw [h.1, h.2]; exact k
  | x :: xs, ys, vs, ws, f, g, h, k => by
    obtain ⟨v, vs', f1, f2, ev, h1, h2, ef⟩ := h
    exact ⟨v, vs' ++ ws, f1, f2 ++ g, by rw [ev]; rfl, h1, repL_append h2 k, by rw [ef]; simp⟩
theorem repL_one {d : D} {v : V} {fp : FP} (h : RepD K cA H Z d v fp) : RepL K cA H Z [d] [v] fp := ⟨v, [], fp, [], rfl, h, ⟨rfl, rfl⟩, by simp⟩
end
structure Wf (H : Hp) (Z : ZS) (L : FP) : Prop where
  nd : L.Nodup
  dj : ∀ a ∈ L, ¬ Z a
  tz : ∀ a, Z a → ∃ o, H a = some o
structure Fr (H : Hp) (Z : ZS) (L : FP) (H' : Hp) (Z' : ZS) (L' : FP) : Prop where
  keep : ∀ a o, H a = some o → a ∉ L → H' a = some o
  zm : ∀ a, Z a → Z' a
  zs : ∀ a, Z' a → Z a ∨ a ∈ L ∨ H a = none
  ls : ∀ a ∈ L', a ∈ L ∨ H a = none
section
variable {K : PySem.W.Frag} {cA : Str → Addr} {H H1 H2 : Hp} {Z Z1 Z2 : ZS} {L L1 L2 M fp : FP}
theorem Fr.refl : Fr H Z L H Z L := ⟨fun _ _ e _ => e, fun _ z => z, fun _ z => .inl z, fun _ h => .inl h⟩
theorem Fr.trans (a : Fr H Z L H1 Z1 L1) (b : Fr H1 Z1 L1 H2 Z2 L2) : Fr H Z L H2 Z2 L2 where
  keep := fun x o e h => b.keep x o (a.keep x o e h) fun m => by
    rcases a.ls x m with z | z
    · exact h z
    · rw [z] at e; cases e
  zm := fun x z => b.zm x (a.zm x z)
  zs := fun x z => by
    rcases b.zs x z with q | q | q
    · exact a.zs x q
    · exact .inr (a.ls x q)
    · by_cases hx : x ∈ L
      · exact .inr (.inl hx)
      · refine .inr (.inr ?_)
        cases e : H x with
        | none => rfl
        | some o => rw [a.keep x o e hx] at q; cases q
  ls := fun x m => by
    rcases b.ls x m with q | q
    · exact a.ls x q
    · by_cases hx : x ∈ L
      · exact .inl hx
      · refine .inr ?_
        cases e : H x with
        | none => rfl
        | some o => rw [a.keep x o e hx] at q; cases q
theorem Fr.less (a : Fr H Z L H1 Z1 L1) (h : ∀ x ∈ M, x ∈ L1) : Fr H Z L H1 Z1 M := ⟨a.keep, a.zm, a.zs, fun x m => a.ls x (h x m)⟩
theorem Fr.more (a : Fr H Z L H1 Z1 L1) (h : ∀ x ∈ L, x ∈ M) : Fr H Z M H1 Z1 L1 :=
  ⟨fun x o e n => a.keep x o e fun m => n (h x m), a.zm, fun x z => (a.zs x z).imp id (fun q => q.imp (h x) id), fun x m => (a.ls x m).imp (h x) id⟩
theorem Wf.less (w : Wf H Z L) (h : M.Sublist L) : Wf H Z M := ⟨w.nd.sublist h, fun a m => w.dj a (h.subset m), w.tz⟩
theorem Wf.perm (w : Wf H Z L) (h : L.Perm M) : Wf H Z M := ⟨h.nodup_iff.mp w.nd, fun a m => w.dj a (h.mem_iff.mpr m), w.tz⟩
theorem Wf.wait (w : Wf H1 Z1 (fp ++ L1)) (ht : ∀ a ∈ fp, ∃ o, H1 a = some o) (f : Fr H1 Z1 L1 H2 Z2 M) (w2 : Wf H2 Z2 M) : Wf H2 Z2 (fp ++ M) := by
  have nd := List.nodup_append.mp w.nd
  refine ⟨List.nodup_append.mpr ⟨nd.1, w2.nd, fun a ha b hb e => ?_⟩, fun a ha => ?_, w2.tz⟩
  · subst e
    rcases f.ls a hb with q | q
    · exact nd.2.2 a ha a q rfl
    · obtain ⟨o, e⟩ := ht a ha; rw [q] at e; cases e
  · rcases List.mem_append.mp ha with ha | ha
    · intro z
      rcases f.zs a z with q | q | q
      · exact w.dj a (by simp [ha]) q
      · exact nd.2.2 a ha a q rfl
      · obtain ⟨o, e⟩ := ht a ha; rw [q] at e; cases e
    · exact w2.dj a ha
theorem Fr.wait (w : Wf H1 Z1 (fp ++ L1)) (a : Fr H Z L H1 Z1 (fp ++ L1)) (f : Fr H1 Z1 L1 H2 Z2 M) : Fr H Z L H2 Z2 (fp ++ M) := by
  have b : Fr H1 Z1 (fp ++ L1) H2 Z2 (fp ++ M) := ⟨fun x o e n => f.keep x o e fun m => n (by simp [m]), f.zm, fun x z => (f.zs x z).imp id (fun q => q.imp (fun m => by simp [m]) id), fun x m => by
    rcases List.mem_append.mp m with m | m
    · exact .inl (by simp [m])
    · exact (f.ls x m).imp (fun m => by simp [m]) id⟩
  exact a.trans b
theorem repD_wait {d : D} {v : V} (w : Wf H1 Z1 (fp ++ L1)) (h : RepD K cA H1 Z1 d v fp) (f : Fr H1 Z1 L1 H2 Z2 M) : RepD K cA H2 Z2 d v fp := by
  have nd := List.nodup_append.mp w.nd
  refine repD_mono d f.zm (fun a o m e => f.keep a o e fun q => ?_) h
  rcases m with m | m
  · exact w.dj a (by simp [q]) m
  · exact nd.2.2 a m a q rfl
end
abbrev Env := List (Option D)
section
variable (K : PySem.W.Frag) (cA : Str → Addr) (H : Hp) (Z : ZS)
def RelL : Env → L2.St → FP → Prop
  | [], σ, fp => σ = [] ∧ fp = []
  | none :: ρ, σ, fp => ∃ x σ', σ = x :: σ' ∧ RelL ρ σ' fp
  | some d :: ρ, σ, fp => ∃ v σ' f1 f2, σ = some v :: σ' ∧ RepD K cA H Z d v f1 ∧ RelL ρ σ' f2 ∧ fp = f1 ++ f2
end
section
variable {K : PySem.W.Frag} {cA : Str → Addr} {H H' : Hp} {Z Z' : ZS}
theorem relL_mono : ∀ {ρ : Env} {σ : L2.St} {fp : FP}, (∀ a, Z a → Z' a) → (∀ a o, (Z a ∨ a ∈ fp) → H a = some o → H' a = some o) → RelL K cA H Z ρ σ fp → RelL K cA H' Z' ρ σ fp
  | [], _, _, _, _, h => h
  | none :: ρ, σ, fp, hz, hk, h => let ⟨x, σ', e, r⟩ := h; ⟨x, σ', e, relL_mono hz hk r⟩
  | some d :: ρ, σ, fp, hz, hk, h => by
    obtain ⟨v, σ', f1, f2, e, h1, h2, ef⟩ := h
    subst ef
    exact ⟨v, σ', f1, f2, e, repD_mono d hz (fun a u m => hk a u (m.imp id fun z => by simp [z])) h1, relL_mono hz (fun a u m => hk a u (m.imp id fun z => by simp [z])) h2, rfl⟩
theorem relL_trk : ∀ {ρ : Env} {σ : L2.St} {fp : FP}, RelL K cA H Z ρ σ fp → ∀ a ∈ fp, ∃ o, H a = some o
  | [], _, _, h, a, ha => by rw [h.2] at ha; cases ha
  | none :: ρ, σ, fp, h, a, ha => by
    obtain ⟨x, σ', e, r⟩ := h
    exact relL_trk r a ha
  | some d :: ρ, σ, fp, h, a, ha => by
    obtain ⟨v, σ', f1, f2, e, h1, h2, ef⟩ := h
    subst ef
    rcases List.mem_append.mp ha with ha | ha
    · exact repD_trk d h1 a ha
    · exact relL_trk h2 a ha
theorem relL_at : ∀ {ρ : Env} {σ : L2.St} {fp : FP} {i : Nat} {d : D}, RelL K cA H Z ρ σ fp → ρ[i]? = some (some d) → ∃ v f0 f1 f2, σ[i]? = some (some v) ∧ RepD K cA H Z d v f1 ∧ fp = f0 ++ f1 ++ f2 ∧
    (∀ {H' : Hp} {Z' : ZS} {d' : D} {v' : V} {g : FP}, (∀ a, Z a → Z' a) → (∀ a o, (Z a ∨ a ∈ f0 ∨ a ∈ f2) → H a = some o → H' a = some o) → RepD K cA H' Z' d' v' g → RelL K cA H' Z' (ρ.set i (some d')) (σ.set i (some v')) (f0 ++ g ++ f2)) ∧
    (∀ {H' : Hp} {Z' : ZS}, (∀ a, Z a → Z' a) → (∀ a o, (Z a ∨ a ∈ f0 ∨ a ∈ f2) → H a = some o → H' a = some o) → RelL K cA H' Z' (ρ.set i none) σ (f0 ++ f2))
  | [], _, _, _, _, _, e => by simp at e
  | none :: ρ, σ, fp, 0, d, h, e => by simp at e
  | some d' :: ρ, σ, fp, 0, d, h, e => by
    simp at e; subst e
    obtain ⟨v, σ', f1, f2, es, h1, h2, ef⟩ := h
    subst es
    refine ⟨v, [], f1, f2, rfl, h1, by simpa using ef, fun {H' Z' d'' v' g} hz hk r => ⟨v', σ', g, f2, rfl, r, relL_mono hz (fun a o m => hk a o (m.imp id fun z => .inr z)) h2, by simp⟩, fun {H' Z'} hz hk => ?_⟩
    exact ⟨some v, σ', rfl, by simpa using relL_mono hz (fun a o m => hk a o (m.imp id fun z => .inr z)) h2⟩
  | none :: ρ, σ, fp, i + 1, d, h, e => by
    obtain ⟨x, σ', es, r⟩ := h
    subst es
    obtain ⟨v, f0, f1, f2, hv, hr, ef, put, cut⟩ := relL_at (i := i) r (by simpa using e)
    refine ⟨v, f0, f1, f2, by simpa using hv, hr, ef, fun {H' Z' d'' v' g} hz hk q => ⟨x, _, rfl, put hz hk q⟩, fun {H' Z'} hz hk => ⟨x, _, rfl, cut hz hk⟩⟩
  | some d0 :: ρ, σ, fp, i + 1, d, h, e => by
    obtain ⟨v0, σ', g1, g2, es, h1, h2, eg⟩ := h
    subst es
    obtain ⟨v, f0, f1, f2, hv, hr, ef, put, cut⟩ := relL_at (i := i) h2 (by simpa using e)
    refine ⟨v, g1 ++ f0, f1, f2, by simpa using hv, hr, by rw [eg, ef]; simp, fun {H' Z' d'' v' g} hz hk q => ⟨v0, _, g1, f0 ++ g ++ f2, rfl, ?_, put hz (fun a o m => hk a o (m.imp id fun z => z.imp (fun z => by simp [z]) id)) q, by simp⟩, fun {H' Z'} hz hk => ⟨v0, _, g1, f0 ++ f2, rfl, ?_, cut hz (fun a o m => hk a o (m.imp id fun z => z.imp (fun z => by simp [z]) id)), by simp⟩⟩
    · exact repD_mono d0 hz (fun a o m => hk a o (m.imp id fun z => .inl (by simp [z]))) h1
    · exact repD_mono d0 hz (fun a o m => hk a o (m.imp id fun z => .inl (by simp [z]))) h1
theorem relL_set : ∀ {ρ : Env} {σ : L2.St} {fp : FP} {i : Nat} {d : D} {v : V} {g : FP}, RelL K cA H Z ρ σ fp → i < ρ.length → RepD K cA H Z d v g → ∃ f0 f2, (f0 ++ f2).Sublist fp ∧ RelL K cA H Z (ρ.set i (some d)) (σ.set i (some v)) (f0 ++ g ++ f2)
  | [], _, _, _, _, _, _, _, e, _ => by simp at e
  | none :: ρ, σ, fp, 0, d, v, g, h, _, hr => by
    obtain ⟨x, σ', es, r⟩ := h
    subst es
    exact ⟨[], fp, by simp, v, σ', g, fp, rfl, hr, r, by simp⟩
  | some d' :: ρ, σ, fp, 0, d, v, g, h, _, hr => by
    obtain ⟨v', σ', f1, f2, es, h1, h2, ef⟩ := h
    subst es ef
    exact ⟨[], f2, by simp, v, σ', g, f2, rfl, hr, h2, by simp⟩
  | none :: ρ, σ, fp, i + 1, d, v, g, h, hi, hr => by
    obtain ⟨x, σ', es, r⟩ := h
    subst es
    obtain ⟨f0, f2, hs, q⟩ := relL_set (i := i) r (by simpa using hi) hr
    exact ⟨f0, f2, hs, x, _, rfl, q⟩
  | some d' :: ρ, σ, fp, i + 1, d, v, g, h, hi, hr => by
    obtain ⟨v', σ', f1, f2, es, h1, h2, ef⟩ := h
    subst es ef
    obtain ⟨f0, f2', hs, q⟩ := relL_set (i := i) h2 (by simpa using hi) hr
    refine ⟨f1 ++ f0, f2', ?_, v', _, f1, f0 ++ g ++ f2', rfl, h1, q, by simp⟩
    rw [List.append_assoc]
    exact (List.Sublist.refl f1).append hs
end
end DL
namespace DL
open PySem L2
structure Exn where
  c : Str
  fs : List (Str × At)
inductive Out (α : Type) where
  | ok (x : α) (ρ : Env) | ex (e : Exn) (ρ : Env) | st
inductive Fl where
  | nx (ρ : Env) | rt (d : D) (ρ : Env) | bk (ρ : Env) | ct (ρ : Env) | ex (e : Exn) (ρ : Env) | st
inductive FR where
  | rt (d : D) (io : Option D) | ex (e : Exn) (io : Option D) | st
def ExR (cA : Str → Addr) (H : Hp) (Z : ZS) (e : Exn) (cls : Value) (d : Option Addr) : Prop :=
  cls = .ref (cA e.c) ∧ ((e.fs = [] ∧ d = none) ∨ e.fs ≠ [] ∧ ∃ dd, d = some dd ∧ Z dd ∧ H dd = some (.xd (e.fs.map fun p => (p.1, p.2.v))))
section
variable (K : PySem.W.Frag) (cA : Str → Addr)
def PostE (W : WX) (σ : L2.St) (H : Hp) (Z : ZS) (L : FP) (Q : VK) : Out D → Prop
  | .ok d ρ' => ∀ v H' Z' L' fp, RelL K cA H' Z' ρ' σ L' → Wf H' Z' (fp ++ L') → RepD K cA H' Z' d v fp → Fr H Z L H' Z' (fp ++ L') → Q v H'
  | .ex e ρ' => ∀ cls d H' Z' L', RelL K cA H' Z' ρ' σ L' → Wf H' Z' L' → ExR cA H' Z' e cls d → Fr H Z L H' Z' L' → W cls d σ H'
  | .st => False
def PostP (W : WX) (σ : L2.St) (H : Hp) (Z : ZS) (L : FP) (Q : VK) : Out D → Prop
  | .ok d ρ' => ∀ v H' Z' L' fp, RelL K cA H' Z' ρ' σ L' → Wf H' Z' L' → RepD K cA H' Z' d v fp → Fr H Z L H' Z' L' → Q v H'
  | .ex e ρ' => ∀ cls d H' Z' L', RelL K cA H' Z' ρ' σ L' → Wf H' Z' L' → ExR cA H' Z' e cls d → Fr H Z L H' Z' L' → W cls d σ H'
  | .st => False
def PostT (W : WX) (σ : L2.St) (H : Hp) (Z : ZS) (L : FP) (Q : Bool → Hp → Prop) : Out Bool → Prop
  | .ok b ρ' => ∀ H' Z' L', RelL K cA H' Z' ρ' σ L' → Wf H' Z' L' → Fr H Z L H' Z' L' → Q b H'
  | .ex e ρ' => ∀ cls d H' Z' L', RelL K cA H' Z' ρ' σ L' → Wf H' Z' L' → ExR cA H' Z' e cls d → Fr H Z L H' Z' L' → W cls d σ H'
  | .st => False
inductive Ag where
  | d (d : D) | s (i : Nat)
def RepA (H : Hp) (Z : ZS) (σ : L2.St) : List Ag → List V → FP → Prop
  | [], vs, g => vs = [] ∧ g = []
  | .d x :: xs, vs, g => ∃ v vs' f1 f2, vs = v :: vs' ∧ RepD K cA H Z x v f1 ∧ RepA H Z σ xs vs' f2 ∧ g = f1 ++ f2
  | .s i :: xs, vs, g => ∃ v vs', vs = v :: vs' ∧ σ[i]? = some (some v) ∧ RepA H Z σ xs vs' g
def PostA (W : WX) (σ : L2.St) (H : Hp) (Z : ZS) (L : FP) (Q : List V → Hp → Prop) : Out (List Ag) → Prop
  | .ok ds ρ' => ∀ vs H' Z' L' fp, RelL K cA H' Z' ρ' σ L' → Wf H' Z' (fp ++ L') → RepA K cA H' Z' σ ds vs fp → Fr H Z L H' Z' (fp ++ L') → Q vs H'
  | .ex e ρ' => ∀ cls d H' Z' L', RelL K cA H' Z' ρ' σ L' → Wf H' Z' L' → ExR cA H' Z' e cls d → Fr H Z L H' Z' L' → W cls d σ H'
  | .st => False
def Pin (k : Option Nat) (σ σ' : L2.St) : Prop := ∀ i, k = some i → σ'[i]? = σ[i]?
def PostS (W : WX) (k : Option Nat) (σ : L2.St) (H : Hp) (Z : ZS) (L : FP) (D : Ends) : Fl → Prop
  | .nx ρ' => ∀ σ' H' Z' L', RelL K cA H' Z' ρ' σ' L' → Wf H' Z' L' → Fr H Z L H' Z' L' → Pin k σ σ' → D.nx σ' H'
  | .bk ρ' => ∀ σ' H' Z' L', RelL K cA H' Z' ρ' σ' L' → Wf H' Z' L' → Fr H Z L H' Z' L' → Pin k σ σ' → D.bk σ' H'
  | .ct ρ' => ∀ σ' H' Z' L', RelL K cA H' Z' ρ' σ' L' → Wf H' Z' L' → Fr H Z L H' Z' L' → Pin k σ σ' → D.ct σ' H'
  | .rt d ρ' => ∀ v σ' H' Z' L' fp, RelL K cA H' Z' ρ' σ' L' → Wf H' Z' (fp ++ L') → RepD K cA H' Z' d v fp → Fr H Z L H' Z' (fp ++ L') → Pin k σ σ' → D.rt v H'
  | .ex e ρ' => ∀ cls d σ' H' Z' L', RelL K cA H' Z' ρ' σ' L' → Wf H' Z' L' → ExR cA H' Z' e cls d → Fr H Z L H' Z' L' → Pin k σ σ' → W cls d σ' H'
  | .st => False
def TEof (W : WX) (f : Env → Out D) : TE := fun σ H Q => ∃ Z L ρ, RelL K cA H Z ρ σ L ∧ Wf H Z L ∧ PostE K cA W σ H Z L Q (f ρ)
def TPof (W : WX) (f : Env → Out D) : TE := fun σ H Q => ∃ Z L ρ, RelL K cA H Z ρ σ L ∧ Wf H Z L ∧ PostP K cA W σ H Z L Q (f ρ)
def TTof (W : WX) (f : Env → Out Bool) : TT := fun σ H Q => ∃ Z L ρ, RelL K cA H Z ρ σ L ∧ Wf H Z L ∧ PostT K cA W σ H Z L Q (f ρ)
def TAof (W : WX) (f : Env → Out (List Ag)) : TA := fun σ H Q => ∃ Z L ρ, RelL K cA H Z ρ σ L ∧ Wf H Z L ∧ PostA K cA W σ H Z L Q (f ρ)
def TSof (W : WX) (k : Option Nat) (f : Env → Fl) : TS := fun D σ H => ∃ Z L ρ, RelL K cA H Z ρ σ L ∧ Wf H Z L ∧ PostS K cA W k σ H Z L D (f ρ)
end
section
variable (X : Cx) (cA : Str → Addr) (W : WX)
def DE (f : Env → Out D) (e : Expr) : Prop := PE X e (TEof X.K cA W f)
def DP (f : Env → Out D) (e : Expr) : Prop := PE X e (TPof X.K cA W f)
def DT (f : Env → Out Bool) (e : Expr) : Prop := PT X e (TTof X.K cA W f)
def DW (f : Env → Out Bool) (e : Expr) : Prop := PW X e (TTof X.K cA W f)
def DA (f : Env → Out (List Ag)) (es : List Expr) : Prop := PA X es (TAof X.K cA W f)
def DS (k : Option Nat) (f : Env → Fl) (st : Stmt) : Prop := PS X st (TSof X.K cA W k f)
def DSs (k : Option Nat) (f : Env → Fl) (st : List Stmt) : Prop := PSs X st (TSof X.K cA W k f)
end
section
variable {X : Cx}
theorem PE.imp {e : Expr} {t t' : TE} (h : PE X e t) (i : ∀ σ H Q, t' σ H Q → t σ H Q) : PE X e t' := ⟨fun pins s σ H Q I w => h.run pins s σ H Q I (i σ H Q w)⟩
theorem PT.imp {e : Expr} {t t' : TT} (h : PT X e t) (i : ∀ σ H Q, t' σ H Q → t σ H Q) : PT X e t' := ⟨fun pins s σ H Q I w => h.run pins s σ H Q I (i σ H Q w)⟩
theorem PW.imp {e : Expr} {t t' : TT} (h : PW X e t) (i : ∀ σ H Q, t' σ H Q → t σ H Q) : PW X e t' := ⟨fun wh pins s σ H Q I w => h.run wh pins s σ H Q I (i σ H Q w)⟩
theorem PA.imp {e : List Expr} {t t' : TA} (h : PA X e t) (i : ∀ σ H Q, t' σ H Q → t σ H Q) : PA X e t' := ⟨fun pos pins s σ H Q I w => h.run pos pins s σ H Q I (i σ H Q w)⟩
theorem PS.imp {e : Stmt} {t t' : TS} (h : PS X e t) (i : ∀ D σ H, t' D σ H → t D σ H) : PS X e t' := ⟨fun pins s σ H D I w => h.run pins s σ H D I (i D σ H w)⟩
theorem PSs.imp {e : List Stmt} {t t' : TS} (h : PSs X e t) (i : ∀ D σ H, t' D σ H → t D σ H) : PSs X e t' := ⟨fun pins s σ H D I w => h.run pins s σ H D I (i D σ H w)⟩
end
section
variable {K : PySem.W.Frag} {cA : Str → Addr} {H H1 H2 : Hp} {Z Z1 Z2 : ZS} {L L1 L2 M fp : FP} {ρ : Env} {σ : _root_.L2.St}
theorem relL_wait (w : Wf H1 Z1 (fp ++ L1)) (h : RelL K cA H1 Z1 ρ σ fp) (f : Fr H1 Z1 L1 H2 Z2 M) : RelL K cA H2 Z2 ρ σ fp := by
  have nd := List.nodup_append.mp w.nd
  refine relL_mono f.zm (fun a o m e => f.keep a o e fun q => ?_) h
  rcases m with m | m
  · exact w.dj a (by simp [q]) m
  · exact nd.2.2 a m a q rfl
theorem Wf.swap (w : Wf H Z (L ++ M)) : Wf H Z (M ++ L) := w.perm (List.perm_append_comm)
theorem Fr.swap (f : Fr H Z L H1 Z1 (L1 ++ M)) : Fr H Z L H1 Z1 (M ++ L1) := f.less fun x m => by
  rcases List.mem_append.mp m with m | m <;> simp [m]
theorem Fr.swapl (f : Fr H Z (L ++ M) H1 Z1 L1) : Fr H Z (M ++ L) H1 Z1 L1 := f.more fun x m => by
  rcases List.mem_append.mp m with m | m <;> simp [m]
theorem hand (w : Wf H1 Z1 (fp ++ L1)) (r : RelL K cA H1 Z1 ρ σ L1) (f : Fr H1 Z1 fp H2 Z2 M) (w2 : Wf H2 Z2 M) : RelL K cA H2 Z2 ρ σ L1 ∧ Wf H2 Z2 (M ++ L1) ∧ Fr H1 Z1 (fp ++ L1) H2 Z2 (M ++ L1) := by
  have ws := w.swap
  refine ⟨relL_wait ws r f, (ws.wait (relL_trk r) f w2).swap, ?_⟩
  exact ((Fr.refl (H := H1) (Z := Z1) (L := L1 ++ fp)).wait ws f).swap.swapl
theorem hand0 (w : Wf H1 Z1 L1) (r : RelL K cA H1 Z1 ρ σ L1) (f : Fr H1 Z1 [] H2 Z2 M) (w2 : Wf H2 Z2 M) : RelL K cA H2 Z2 ρ σ L1 ∧ Wf H2 Z2 (M ++ L1) ∧ Fr H1 Z1 L1 H2 Z2 (M ++ L1) := hand (fp := []) w r f w2
def ZU (Z : ZS) (fp : FP) : ZS := fun a => Z a ∨ a ∈ fp
theorem Wf.freeze (w : Wf H Z (fp ++ L)) (ht : ∀ a ∈ fp, ∃ o, H a = some o) : Wf H (ZU Z fp) L := by
  have nd := List.nodup_append.mp w.nd
  refine ⟨nd.2.1, fun a ha z => ?_, fun a z => ?_⟩
  · rcases z with z | z
    · exact w.dj a (by simp [ha]) z
    · exact nd.2.2 a z a ha rfl
  · rcases z with z | z
    · exact w.tz a z
    · exact ht a z
theorem Fr.freeze (f : Fr H Z L H1 Z1 (fp ++ M)) : Fr H Z L H1 (ZU Z1 fp) M := by
  refine ⟨f.keep, fun a z => .inl (f.zm a z), fun a z => ?_, fun a m => f.ls a (by simp [m])⟩
  rcases z with z | z
  · exact f.zs a z
  · exact .inr (f.ls a (by simp [z]))
theorem zu_sub {fp : FP} : ∀ a, Z a → ZU Z fp a := fun _ z => .inl z
theorem relL_zu (h : RelL K cA H Z ρ σ L) : RelL K cA H (ZU Z fp) ρ σ L := relL_mono zu_sub (fun _ _ _ e => e) h
theorem repD_zu {d : D} {v : V} (h : RepD K cA H Z d v fp) : RepD K cA H (ZU Z fp) (frz d) v [] := repD_frz d zu_sub (fun a m => .inr m) h
theorem repL_zu {d : List D} {v : List V} (h : RepL K cA H Z d v fp) : RepL K cA H (ZU Z fp) (frzL d) v [] := repL_frz d zu_sub (fun a m => .inr m) h
theorem fr_new {p : Addr} {o : HO} (h : H p = none) : Fr H Z L (upd H p o) Z (p :: L) := by
  refine ⟨fun a u e _ => by rw [upd_ne (ne_of_none e h)]; exact e, fun _ z => z, fun _ z => .inl z, fun a m => ?_⟩
  rcases List.mem_cons.mp m with rfl | m
  · exact .inr h
  · exact .inl m
theorem wf_new {p : Addr} {o : HO} (w : Wf H Z L) (h : H p = none) (ht : ∀ a ∈ L, ∃ o, H a = some o) : Wf (upd H p o) Z (p :: L) := by
  refine ⟨List.nodup_cons.mpr ⟨fun m => ?_, w.nd⟩, fun a m => ?_, fun a z => ?_⟩
  · obtain ⟨u, e⟩ := ht p m; rw [h] at e; cases e
  · rcases List.mem_cons.mp m with rfl | m
    · intro z; obtain ⟨u, e⟩ := w.tz a z; rw [h] at e; cases e
    · exact w.dj a m
  · obtain ⟨u, e⟩ := w.tz a z
    exact ⟨u, by rw [upd_ne (ne_of_none e h)]; exact e⟩
theorem keep_new {p : Addr} {o : HO} (h : H p = none) : ∀ a u, H a = some u → upd H p o a = some u := fun a u e => by rw [upd_ne (ne_of_none e h)]; exact e
end
section
variable {X : Cx} {cA : Str → Addr} {W : WX} {k : Option Nat}
theorem de_of {e : Expr} {t : TE} {f : Env → Out D} (h : PE X e t) (i : ∀ σ H Q Z L ρ, RelL X.K cA H Z ρ σ L → Wf H Z L → PostE X.K cA W σ H Z L Q (f ρ) → t σ H Q) : DE X cA W f e :=
  PE.imp h fun σ H Q ⟨Z, L, ρ, r, w, p⟩ => i σ H Q Z L ρ r w p
theorem dp_of {e : Expr} {t : TE} {f : Env → Out D} (h : PE X e t) (i : ∀ σ H Q Z L ρ, RelL X.K cA H Z ρ σ L → Wf H Z L → PostP X.K cA W σ H Z L Q (f ρ) → t σ H Q) : DP X cA W f e :=
  PE.imp h fun σ H Q ⟨Z, L, ρ, r, w, p⟩ => i σ H Q Z L ρ r w p
theorem da_of {e : List Expr} {t : TA} {f : Env → Out (List Ag)} (h : PA X e t) (i : ∀ σ H Q Z L ρ, RelL X.K cA H Z ρ σ L → Wf H Z L → PostA X.K cA W σ H Z L Q (f ρ) → t σ H Q) : DA X cA W f e :=
  PA.imp h fun σ H Q ⟨Z, L, ρ, r, w, p⟩ => i σ H Q Z L ρ r w p
theorem ds_of {e : Stmt} {t : TS} {f : Env → Fl} (h : PS X e t) (i : ∀ D σ H Z L ρ, RelL X.K cA H Z ρ σ L → Wf H Z L → PostS X.K cA W k σ H Z L D (f ρ) → t D σ H) : DS X cA W k f e :=
  PS.imp h fun D σ H ⟨Z, L, ρ, r, w, p⟩ => i D σ H Z L ρ r w p
theorem dss_of {e : List Stmt} {t : TS} {f : Env → Fl} (h : PSs X e t) (i : ∀ D σ H Z L ρ, RelL X.K cA H Z ρ σ L → Wf H Z L → PostS X.K cA W k σ H Z L D (f ρ) → t D σ H) : DSs X cA W k f e :=
  PSs.imp h fun D σ H ⟨Z, L, ρ, r, w, p⟩ => i D σ H Z L ρ r w p
end
theorem exw {K : PySem.W.Frag} {cA : Str → Addr} {W : WX} {σ : L2.St} {H H1 : Hp} {Z Z1 : ZS} {L L1 : FP} {e : Exn} {ρ' : Env}
    (h : ∀ cls d H' Z' L', RelL K cA H' Z' ρ' σ L' → Wf H' Z' L' → ExR cA H' Z' e cls d → Fr H Z L H' Z' L' → W cls d σ H') (f : Fr H Z L H1 Z1 L1) :
    ∀ cls d H' Z' L', RelL K cA H' Z' ρ' σ L' → Wf H' Z' L' → ExR cA H' Z' e cls d → Fr H1 Z1 L1 H' Z' L' → W cls d σ H' := fun cls d H' Z' L' r w x g => h cls d H' Z' L' r w x (f.trans g)
section
variable {X : Cx} {cA : Str → Addr} {W : WX}
theorem postE_at {K : PySem.W.Frag} {σ : L2.St} {H : Hp} {Z : ZS} {L : FP} {ρ : Env} {Q : VK} {d : D} {v : V} (r : RelL K cA H Z ρ σ L) (w : Wf H Z L) (h : RepD K cA H Z d v []) (p : PostE K cA W σ H Z L Q (.ok d ρ)) : Q v H :=
  p v H Z L [] r w h Fr.refl
theorem repD_a {K : PySem.W.Frag} {H : Hp} {Z : ZS} {x : At} : RepD K cA H Z (.a x) x.v [] := ⟨rfl, rfl⟩
def dC (x : At) : Env → Out D := fun ρ => .ok (.a x) ρ
theorem de_int {i : Int} {j pos} : DE X cA W (dC (.int i)) (.Constant (.int i) j pos) := de_of pe_int fun σ H Q Z L ρ r w p => postE_at r w repD_a p
theorem de_bl {b : Bool} {j pos} : DE X cA W (dC (.bl b)) (.Constant (.bool b) j pos) := de_of pe_bl fun σ H Q Z L ρ r w p => postE_at r w repD_a p
theorem de_non {j pos} : DE X cA W (dC .non) (.Constant .none j pos) := de_of pe_non fun σ H Q Z L ρ r w p => postE_at r w repD_a p
def dVar (i : Nat) : Env → Out D := fun ρ => match ρ[i]? with
  | some (some d) => if isF d = true then .ok d ρ else .st
  | _ => .st
def dPeek (i : Nat) : Env → Out D := fun ρ => match ρ[i]? with
  | some (some d) => .ok d ρ
  | _ => .st
theorem de_var {i : Nat} {e : Expr} (h : PE X e (tVar i)) : DE X cA W (dVar i) e := de_of h fun σ H Q Z L ρ r w p => by
  unfold dVar at p
  split at p
  · rename_i d hd
    split at p
    · rename_i hf
      obtain ⟨v, f0, f1, f2, hv, hr, ef, _, _⟩ := relL_at r hd
      have e1 := repD_isF d hr hf
      subst e1
      exact ⟨v, hv, postE_at r w hr p⟩
    · exact p.elim
  · exact p.elim
theorem dp_peek {i : Nat} {e : Expr} (h : PE X e (tVar i)) : DP X cA W (dPeek i) e := dp_of h fun σ H Q Z L ρ r w p => by
  unfold dPeek at p
  split at p
  · rename_i d hd
    obtain ⟨v, f0, f1, f2, hv, hr, ef, _, _⟩ := relL_at r hd
    exact ⟨v, hv, p v H Z L f1 r w hr Fr.refl⟩
  · exact p.elim
theorem dp_de {f : Env → Out D} {e : Expr} (h : DE X cA W f e) : DP X cA W f e := dp_of h fun σ H Q Z L ρ r w p => ⟨Z, L, ρ, r, w, by
  cases hf : f ρ with
  | ok d ρ' =>
    rw [hf] at p
    exact fun v H' Z' L' fp r' w' h' f' => p v H' Z' L' fp r' (w'.less (List.sublist_append_right _ _)) h' (f'.less fun x m => by simp [m])
  | ex e ρ' => rw [hf] at p; exact p
  | st => rw [hf] at p; exact p⟩
def dFz (f : Env → Out D) : Env → Out D := fun ρ => match f ρ with
  | .ok d ρ' => .ok (frz d) ρ'
  | .ex e ρ' => .ex e ρ'
  | .st => .st
theorem de_fz {f : Env → Out D} {e : Expr} (h : DE X cA W f e) : DE X cA W (dFz f) e := de_of h fun σ H Q Z L ρ r w p => ⟨Z, L, ρ, r, w, by
  unfold dFz at p
  cases hf : f ρ with
  | ok d ρ' =>
    rw [hf] at p
    exact fun v H' Z' L' fp r' w' h' f' => p v H' (ZU Z' fp) L' [] (relL_zu r') (w'.freeze (repD_trk d h')) (repD_zu h') f'.freeze
  | ex e ρ' => rw [hf] at p; exact p
  | st => rw [hf] at p; exact p⟩
structure VOp2 (K : PySem.W.Frag) (cA : Str → Addr) (r : R2) (g : D → D → Option D) : Prop where
  run : ∀ {d1 d2 d : D} {v1 v2 : V} {H : Hp} {Z : ZS} {f1 f2 : FP} {Q : VK}, RepD K cA H Z d1 v1 f1 → RepD K cA H Z d2 v2 f2 → Wf H Z (f1 ++ f2) → g d1 d2 = some d →
  (∀ v H' Z' fp, RepD K cA H' Z' d v fp → Wf H' Z' fp → Fr H Z (f1 ++ f2) H' Z' fp → Q v H') → r v1 v2 H Q
def dOp2 (g : D → D → Option D) (fa fb : Env → Out D) : Env → Out D := fun ρ => match fa ρ with
  | .ok d1 ρ1 => (match fb ρ1 with
    | .ok d2 ρ2 => (match g d1 d2 with
      | some d => .ok d ρ2
      | none => .st)
    | .ex e ρ2 => .ex e ρ2
    | .st => .st)
  | .ex e ρ1 => .ex e ρ1
  | .st => .st
theorem te_op2 {K : PySem.W.Frag} {r : R2} {g : D → D → Option D} (V : VOp2 K cA r g) {fa fb : Env → Out D} : ∀ σ H Q, TEof K cA W (dOp2 g fa fb) σ H Q → tOp r (TEof K cA W fa) (TEof K cA W fb) σ H Q := by
  rintro σ H Q ⟨Z, L, ρ, r, w, p⟩
  refine ⟨Z, L, ρ, r, w, ?_⟩
  unfold dOp2 at p
  cases ha : fa ρ with
  | st => rw [ha] at p; exact p
  | ex e ρ' => rw [ha] at p; exact p
  | ok d1 ρ1 =>
    rw [ha] at p
    intro v1 H1 Z1 L1 f1 r1 w1 h1 F1
    refine ⟨Z1, L1, ρ1, r1, w1.less (List.sublist_append_right _ _), ?_⟩
    dsimp only at p
    cases hb : fb ρ1 with
    | st => rw [hb] at p; exact p
    | ex e ρ' =>
      rw [hb] at p
      exact exw p (F1.less fun x m => by simp [m])
    | ok d2 ρ2 =>
      rw [hb] at p
      intro v2 H2 Z2 L2 f2 r2 w2 h2 F2
      dsimp only at p
      cases hg : g d1 d2 with
      | none => rw [hg] at p; exact p.elim
      | some d =>
        rw [hg] at p
        have w12 : Wf H2 Z2 (f1 ++ (f2 ++ L2)) := w1.wait (repD_trk d1 h1) F2 w2
        have F12 := Fr.wait w1 F1 F2
        rw [← List.append_assoc] at w12 F12
        refine V.run (repD_wait w1 h1 F2) h2 (w12.less (List.sublist_append_left _ _)) hg fun v H3 Z3 fp h3 w3 F3 => ?_
        obtain ⟨r3, w4, F4⟩ := hand w12 r2 F3 w3
        exact p v H3 Z3 L2 fp r3 w4 h3 (F12.trans F4)
theorem de_op {op : Operator} {r : R2} {g : D → D → Option D} {fa fb : Env → Out D} {a b : Expr} {pos : Pos} (ho : OpR X (binaryOp op) r) (V : VOp2 X.K cA r g) (ha : DE X cA W fa a) (hb : DE X cA W fb b) : DE X cA W (dOp2 g fa fb) (.BinOp a op b pos) :=
  PE.imp (pe_op ho ha hb) (te_op2 V)
theorem de_cmp {op : CmpOp} {r : R2} {g : D → D → Option D} {fa fb : Env → Out D} {a b : Expr} {pos : Pos} (ho : OpR X (compareOp op) r) (V : VOp2 X.K cA r g) (ha : DE X cA W fa a) (hb : DE X cA W fb b) (hm : behindInMarks op b = false := by exact nomark _) : DE X cA W (dOp2 g fa fb) (.Compare a [op] [b] pos) :=
  PE.imp (pe_cmpR ho ha hb hm) (te_op2 V)
structure VOpP (K : PySem.W.Frag) (cA : Str → Addr) (r : R2) (g : D → D → Option D) : Prop where
  run : ∀ {d1 d2 d : D} {v1 v2 : V} {H : Hp} {Z : ZS} {f1 f2 : FP} {Q : VK}, RepD K cA H Z d1 v1 f1 → RepD K cA H Z d2 v2 f2 → g d1 d2 = some d →
  (∀ x, d = .a x → Q x.v H) → r v1 v2 H Q
theorem te_opP {K : PySem.W.Frag} {r : R2} {g : D → D → Option D} (V : VOpP K cA r g) (hg : ∀ d1 d2 d, g d1 d2 = some d → ∃ x, d = .a x) {fa fb : Env → Out D} : ∀ σ H Q, TEof K cA W (dOp2 g fa fb) σ H Q → tOp r (TEof K cA W fa) (TPof K cA W fb) σ H Q := by
  rintro σ H Q ⟨Z, L, ρ, r, w, p⟩
  refine ⟨Z, L, ρ, r, w, ?_⟩
  unfold dOp2 at p
  cases ha : fa ρ with
  | st => rw [ha] at p; exact p
  | ex e ρ' => rw [ha] at p; exact p
  | ok d1 ρ1 =>
    rw [ha] at p
    intro v1 H1 Z1 L1 f1 r1 w1 h1 F1
    refine ⟨Z1, L1, ρ1, r1, w1.less (List.sublist_append_right _ _), ?_⟩
    dsimp only at p
    cases hb : fb ρ1 with
    | st => rw [hb] at p; exact p
    | ex e ρ' =>
      rw [hb] at p
      exact exw p (F1.less fun x m => by simp [m])
    | ok d2 ρ2 =>
      rw [hb] at p
      intro v2 H2 Z2 L2 f2 r2 w2 h2 F2
      dsimp only at p
      cases hg' : g d1 d2 with
      | none => rw [hg'] at p; exact p.elim
      | some d =>
        rw [hg'] at p
        obtain ⟨x, rfl⟩ := hg d1 d2 d hg'
        refine V.run (repD_wait w1 h1 F2) h2 hg' fun x' e => ?_
        cases e
        exact p x.v H2 Z2 L2 [] r2 w2 repD_a ((F1.less fun x m => by simp [m]).trans F2)
end
end DL
namespace DL
open PySem L2
abbrev cap : Nat := 1000000
theorem cap_le {n : Nat} (h : n ≤ cap) : n ≤ sizeLine := Nat.le_trans h (by rw [sizeLine_eq]; decide)
theorem cap_lt {n : Nat} (h : n < cap) : n < sizeLine := Nat.lt_of_lt_of_le h (by rw [sizeLine_eq]; decide)
theorem vop_at {K : PySem.W.Frag} {cA : Str → Addr} {r : R2} {g : D → D → Option D} (h : ∀ d1 d2 d, g d1 d2 = some d → ∃ x y z, d1 = .a x ∧ d2 = .a y ∧ d = .a z ∧ ∀ H (Q : VK), Q z.v H → r x.v y.v H Q) : VOp2 K cA r g := by
  refine ⟨@fun d1 d2 d v1 v2 H Z f1 f2 Q h1 h2 w hg q => ?_⟩
  obtain ⟨x, y, z, rfl, rfl, rfl, hr⟩ := h d1 d2 d hg
  obtain ⟨e1, e2⟩ := h1
  obtain ⟨e3, e4⟩ := h2
  subst e1 e2 e3 e4
  exact hr H Q (q _ H Z [] ⟨rfl, rfl⟩ ⟨List.nodup_nil, fun _ m => (nomatch m), w.tz⟩ Fr.refl)
def gOr (g g' : D → D → Option D) : D → D → Option D := fun a b => (g a b).or (g' a b)
theorem vop_or {K : PySem.W.Frag} {cA : Str → Addr} {r r' : R2} {g g' : D → D → Option D} (h : VOp2 K cA r g) (h' : VOp2 K cA r' g') : VOp2 K cA (fun x y H Q => r x y H Q ∨ r' x y H Q) (gOr g g') := by
  refine ⟨@fun d1 d2 d v1 v2 H Z f1 f2 Q h1 h2 w hg q => ?_⟩
  unfold gOr at hg
  cases e : g d1 d2 with
  | some c =>
    rw [e] at hg
    cases hg
    exact .inl (h.run h1 h2 w e q)
  | none =>
    rw [e] at hg
    exact .inr (h'.run h1 h2 w hg q)
def gII (c : Int → Int → Bool) (f : Int → Int → Int) : D → D → Option D
  | .a (.int i), .a (.int j) => if c i j = true then some (.int (f i j)) else none
  | _, _ => none
theorem vop_ii {K : PySem.W.Frag} {cA : Str → Addr} {C : Int → Int → Prop} {c : Int → Int → Bool} {f : Int → Int → Int} (h : ∀ i j, c i j = true → C i j) : VOp2 K cA (rI C fun i j => .int (f i j)) (gII c f) := vop_at fun d1 d2 d hg => by
  unfold gII at hg
  split at hg
  · rename_i i j
    split at hg
    · rename_i hc
      cases hg
      exact ⟨_, _, _, rfl, rfl, rfl, fun H Q q => ⟨i, j, rfl, rfl, h i j hc, q⟩⟩
    · cases hg
  · cases hg
theorem vop_ii0 {K : PySem.W.Frag} {cA : Str → Addr} {f : Int → Int → Int} : VOp2 K cA (rI0 fun i j => .int (f i j)) (gII (fun _ _ => true) f) := vop_at fun d1 d2 d hg => by
  unfold gII at hg
  split at hg
  · rename_i i j
    rw [if_pos rfl] at hg
    cases hg
    exact ⟨_, _, _, rfl, rfl, rfl, fun H Q q => ⟨i, j, rfl, rfl, q⟩⟩
  · cases hg
def gIB (f : Int → Int → Bool) : D → D → Option D
  | .a (.int i), .a (.int j) => some (.bl (f i j))
  | _, _ => none
theorem vop_ib {K : PySem.W.Frag} {cA : Str → Addr} {f : Int → Int → Bool} : VOp2 K cA (rI0 fun i j => .bl (f i j)) (gIB f) := vop_at fun d1 d2 d hg => by
  unfold gIB at hg
  split at hg
  · rename_i i j
    cases hg
    exact ⟨_, _, _, rfl, rfl, rfl, fun H Q q => ⟨i, j, rfl, rfl, q⟩⟩
  · cases hg
def gCatL : D → D → Option D
  | .n .lst _ xs, .n .lst _ ys => if isFL xs = true ∧ isFL ys = true ∧ xs.length + ys.length ≤ cap then some (.lst true (xs ++ ys)) else none
  | _, _ => none
section
variable {K : PySem.W.Frag} {cA : Str → Addr} {H : Hp} {Z : ZS}
theorem rep_lst {o : Bool} {xs : List D} {v : V} {fp : FP} (h : RepD K cA H Z (.n .lst o xs) v fp) : ∃ p vs g, v = .ref p ∧ H p = some (.lst vs) ∧ RepL K cA H Z xs vs g ∧ fp = (if o then p :: g else []) ∧ (o = false → Z p ∧ g = []) := by
  obtain ⟨p, vs, g, e, hl, hc, ef, hg⟩ := h
  exact ⟨p, vs, g, e, hc.1, hl, ef, fun q => ⟨hc.2 q, hg q⟩⟩
theorem rep_tup {o : Bool} {xs : List D} {v : V} {fp : FP} (h : RepD K cA H Z (.n .tup o xs) v fp) : ∃ p vs, v = .ref p ∧ SqT K H p vs ∧ RepL K cA H Z xs vs [] ∧ fp = [] ∧ o = false ∧ ((Z p ∧ Rd H p (.tup vs)) ∨ KT K p vs) := by
  obtain ⟨p, vs, g, e, hl, ⟨ho, hc⟩, ef, hg⟩ := h
  subst ho
  have := hg rfl
  subst this
  refine ⟨p, vs, e, ?_, hl, ef, rfl, hc⟩
  rcases hc with ⟨_, r⟩ | r
  · exact .inl r
  · exact .inr r
theorem rep_scr {o : Bool} {xs : List D} {v : V} {fp : FP} (h : RepD K cA H Z (.n .scr o xs) v fp) : ∃ p vs, v = .ref p ∧ SqL K H p vs ∧ RepL K cA H Z xs vs [] ∧ fp = [] ∧ o = false := by
  obtain ⟨p, vs, g, e, hl, ⟨ho, hc⟩, ef, hg⟩ := h
  subst ho
  have := hg rfl
  subst this
  refine ⟨p, vs, e, ?_, hl, ef, rfl⟩
  rcases hc with ⟨_, r⟩ | r
  · exact .inl r
  · exact .inr r
theorem repL_fl {xs : List D} {vs : List V} {g : FP} (h : RepL K cA H Z xs vs g) (hf : isFL xs = true) : RepL K cA H Z xs vs [] := by
  have e := repL_isF xs h hf
  subst e
  exact h
theorem new_lst {xs : List D} {vs : List V} {p : Addr} (w : Wf H Z []) (h : RepL K cA H Z xs vs []) (hp : H p = none) :
    RepD K cA (upd H p (.lst vs)) Z (.lst true xs) (.ref p) [p] ∧ Wf (upd H p (.lst vs)) Z [p] ∧ Fr H Z [] (upd H p (.lst vs)) Z [p] := by
  refine ⟨⟨p, vs, [], rfl, repL_mono xs (fun _ z => z) (fun a o _ e => keep_new hp a o e) h, ⟨upd_same, fun q => nomatch q⟩, rfl, fun q => nomatch q⟩, wf_new w hp (fun a m => nomatch m), fr_new hp⟩
theorem new_tup {xs : List D} {vs : List V} {p : Addr} (w : Wf H Z []) (h : RepL K cA H Z xs vs []) (hp : H p = none) :
    RepD K cA (upd H p (.tup vs)) (ZU Z [p]) (.tup xs) (.ref p) [] ∧ Wf (upd H p (.tup vs)) (ZU Z [p]) [] ∧ Fr H Z [] (upd H p (.tup vs)) (ZU Z [p]) [] := by
  refine ⟨⟨p, vs, [], rfl, repL_mono xs zu_sub (fun a o _ e => keep_new hp a o e) h, ⟨rfl, .inl ⟨.inr (by simp), .inl upd_same⟩⟩, rfl, fun _ => rfl⟩, ?_, ?_⟩
  · exact (wf_new w hp (fun a m => nomatch m) : Wf (upd H p (.tup vs)) Z ([p] ++ [])).freeze fun a m => ⟨.tup vs, by
      have : a = p := by simpa using m
      subst this; exact upd_same⟩
  · exact Fr.freeze (fp := [p]) (M := []) (fr_new hp)
theorem wf0 {L : FP} (w : Wf H Z L) : Wf H Z [] := w.less (List.nil_sublist _)
theorem fr0 {L : FP} {H' : Hp} {Z' : ZS} {fp : FP} (f : Fr H Z [] H' Z' fp) : Fr H Z L H' Z' fp := f.more fun _ m => nomatch m
end
theorem vop_catL {K : PySem.W.Frag} {cA : Str → Addr} : VOp2 K cA rCat gCatL := by
  refine ⟨@fun d1 d2 d v1 v2 H Z f1 f2 Q h1 h2 w hg q => ?_⟩
  unfold gCatL at hg
  split at hg
  · rename_i o1 xs o2 ys
    split at hg
    · rename_i hc
      cases hg
      obtain ⟨p, vs, g, rfl, e1, r1, _, _⟩ := rep_lst h1
      obtain ⟨p', ws, g', rfl, e2, r2, _, _⟩ := rep_lst h2
      have l1 := repL_len r1
      have l2 := repL_len r2
      refine ⟨p, p', vs, ws, rfl, rfl, e1, e2, cap_le (by omega), fun p0 hp => ?_⟩
      obtain ⟨a, b, c⟩ := new_lst (wf0 w) (repL_append (repL_fl r1 hc.1) (repL_fl r2 hc.2.1)) hp
      exact q _ _ _ _ a b (fr0 c)
    · cases hg
  · cases hg
def gCatT : D → D → Option D
  | .n .tup _ xs, .n .tup _ ys => if xs.length + ys.length ≤ cap then some (.tup (xs ++ ys)) else none
  | _, _ => none
theorem vop_catT {K : PySem.W.Frag} {cA : Str → Addr} : VOp2 K cA (rCatA K) gCatT := by
  refine ⟨@fun d1 d2 d v1 v2 H Z f1 f2 Q h1 h2 w hg q => ?_⟩
  unfold gCatT at hg
  split at hg
  · rename_i o1 xs o2 ys
    split at hg
    · rename_i hc
      cases hg
      obtain ⟨p, vs, rfl, e1, r1, ef1, _, c1⟩ := rep_tup h1
      obtain ⟨p', ws, rfl, e2, r2, ef2, _, c2⟩ := rep_tup h2
      have l1 := repL_len r1
      have l2 := repL_len r2
      have rr := repL_append r1 r2
      refine ⟨p, p', vs, ws, rfl, rfl, e1, e2, cap_le (by omega), fun e => ?_, fun n1 e => ?_, fun n1 n2 p0 hp => ?_⟩
      · subst e
        exact q _ H Z [] ⟨p', ws, [], rfl, rr, ⟨rfl, c2⟩, rfl, fun _ => rfl⟩ (wf0 w) (Fr.refl.less fun _ m => nomatch m)
      · subst e
        exact q _ H Z [] ⟨p, vs, [], rfl, by simpa using rr, ⟨rfl, c1⟩, rfl, fun _ => rfl⟩ (wf0 w) (Fr.refl.less fun _ m => nomatch m)
      · obtain ⟨a, b, c⟩ := new_tup (wf0 w) rr hp
        exact q _ _ _ _ a b (fr0 c)
    · cases hg
  · cases hg
def gCatS : D → D → Option D
  | .a (.str x), .a (.str y) => if x.length + y.length ≤ cap then some (.str (x ++ y)) else none
  | _, _ => none
theorem vop_catS {K : PySem.W.Frag} {cA : Str → Addr} : VOp2 K cA (fun x y H Q => ∃ i j, x = .str i ∧ y = .str j ∧ i.length + j.length ≤ sizeLine ∧ Q (.str (i ++ j)) H) gCatS := vop_at fun d1 d2 d hg => by
  unfold gCatS at hg
  split at hg
  · rename_i x y
    split at hg
    · rename_i hc
      cases hg
      exact ⟨_, _, _, rfl, rfl, rfl, fun H Q q => ⟨x, y, rfl, rfl, cap_le hc, q⟩⟩
    · cases hg
  · cases hg
abbrev gAddI : D → D → Option D := gII (fun _ _ => true) fun i j => i + j
abbrev gSub : D → D → Option D := gII (fun _ _ => true) fun i j => i - j
def gAdd : D → D → Option D := gOr gAddI (gOr gCatL (gOr gCatT gCatS))
def gRep : D → D → Option D
  | .n .lst _ xs, .a (.int k) => if isFL xs = true ∧ -1000000 ≤ k ∧ k ≤ 1000000 ∧ xs.length * k.toNat ≤ cap then some (.lst true (List.replicate k.toNat xs).flatten) else none
  | _, _ => none
theorem repL_rep {K : PySem.W.Frag} {cA : Str → Addr} {H : Hp} {Z : ZS} {xs : List D} {vs : List V} (h : RepL K cA H Z xs vs []) : ∀ n : Nat, RepL K cA H Z (List.replicate n xs).flatten (List.replicate n vs).flatten []
  | 0 => ⟨rfl, rfl⟩
  | n + 1 => by
    rw [List.replicate_succ, List.replicate_succ, List.flatten_cons, List.flatten_cons]
    exact repL_append h (repL_rep h n)
theorem vop_rep {K : PySem.W.Frag} {cA : Str → Addr} : VOp2 K cA rRep gRep := by
  refine ⟨@fun d1 d2 d v1 v2 H Z f1 f2 Q h1 h2 w hg q => ?_⟩
  unfold gRep at hg
  split at hg
  · rename_i o1 xs k
    split at hg
    · rename_i hc
      cases hg
      obtain ⟨p, vs, g, rfl, e1, r1, _, _⟩ := rep_lst h1
      obtain ⟨e3, e4⟩ := h2
      subst e3
      have l1 := repL_len r1
      refine ⟨p, k, vs, rfl, rfl, e1, by omega, by omega, cap_le (by rw [l1]; exact hc.2.2.2), fun p0 hp => ?_⟩
      obtain ⟨a, b, c⟩ := new_lst (wf0 w) (repL_rep (repL_fl r1 hc.1) k.toNat) hp
      exact q _ _ _ _ a b (fr0 c)
    · cases hg
  · cases hg
def mulOk (i j : Int) : Bool := decide ((Builtin.Int.intBits i : Int) + (Builtin.Int.intBits j : Int) ≤ 134217728)
abbrev gMulI : D → D → Option D := gII mulOk fun i j => i * j
def gMul : D → D → Option D := gOr gMulI gRep
def divOk (i j : Int) : Bool := decide (0 < j) && (decide (j < 1073741824) || decide (j.natAbs.log2 < 9000))
abbrev gFdiv : D → D → Option D := gII divOk fun i j => i / j
abbrev gMod : D → D → Option D := gII (fun _ j => decide (0 < j)) fun i j => i % j
def powOk (i j : Int) : Bool := decide (0 ≤ j) && (decide (j ≤ 1000000) && decide (i.natAbs < 2 ^ 64))
abbrev gPow : D → D → Option D := gII powOk fun i j => i ^ j.toNat
abbrev gShl : D → D → Option D := gII powOk fun i j => i * 2 ^ j.toNat
abbrev gShr : D → D → Option D := gII (fun _ j => decide (0 ≤ j)) fun i j => i / 2 ^ j.toNat
abbrev gAnd : D → D → Option D := gII (fun _ _ => true) fun i j => Builtin.bitAnd i j
abbrev gOrB : D → D → Option D := gII (fun _ _ => true) fun i j => Builtin.bitOr i j
section
variable {X : Cx} {cA : Str → Addr} {W : WX} {fa fb : Env → Out D} {a b : Expr} {pos : Pos}
theorem divOk_w {i j : Int} (h : divOk i j = true) : CDivW i j := by
  unfold divOk at h
  simp only [Bool.and_eq_true, Bool.or_eq_true, decide_eq_true_eq] at h
  refine ⟨h.1, ?_⟩
  rcases h.2 with h2 | h2
  · have h3 : j.natAbs < 2 ^ 30 := by have := h.1; omega
    exact Nat.lt_of_lt_of_le (PySem.Flt.log2_lt_of (by decide) h3) (by decide)
  · exact h2
theorem mulOk_c {i j : Int} (h : mulOk i j = true) : CMulX i j := by
  unfold mulOk at h
  unfold CMulX
  exact of_decide_eq_true h
theorem powOk_c {i j : Int} (h : powOk i j = true) : CPow i j := by
  unfold powOk at h
  simp only [Bool.and_eq_true, decide_eq_true_eq] at h
  exact ⟨h.1, h.2.1, h.2.2⟩
theorem de_add (ha : DE X cA W fa a) (hb : DE X cA W fb b) : DE X cA W (dOp2 gAdd fa fb) (.BinOp a .Add b pos) :=
  de_op (op_add.or (op_cat.or (op_catA.or op_add_str))) (vop_or vop_ii0 (vop_or vop_catL (vop_or vop_catT vop_catS))) ha hb
theorem de_sub (ha : DE X cA W fa a) (hb : DE X cA W fb b) : DE X cA W (dOp2 gSub fa fb) (.BinOp a .Sub b pos) := de_op op_sub vop_ii0 ha hb
theorem de_mul (ha : DE X cA W fa a) (hb : DE X cA W fb b) : DE X cA W (dOp2 gMul fa fb) (.BinOp a .Mult b pos) :=
  de_op (op_mulX.or op_rep) (vop_or (vop_ii fun i j h => mulOk_c h) vop_rep) ha hb
theorem de_fdiv (ha : DE X cA W fa a) (hb : DE X cA W fb b) : DE X cA W (dOp2 gFdiv fa fb) (.BinOp a .FloorDiv b pos) := de_op op_fdivW (vop_ii fun i j h => divOk_w h) ha hb
theorem de_mod (ha : DE X cA W fa a) (hb : DE X cA W fb b) : DE X cA W (dOp2 gMod fa fb) (.BinOp a .Mod b pos) := de_op op_mod (vop_ii fun i j h => of_decide_eq_true h) ha hb
theorem de_pow (ha : DE X cA W fa a) (hb : DE X cA W fb b) : DE X cA W (dOp2 gPow fa fb) (.BinOp a .Pow b pos) := de_op op_pow (vop_ii fun i j h => powOk_c h) ha hb
theorem de_shl (ha : DE X cA W fa a) (hb : DE X cA W fb b) : DE X cA W (dOp2 gShl fa fb) (.BinOp a .LShift b pos) := de_op op_shl (vop_ii fun i j h => powOk_c h) ha hb
theorem de_shr (ha : DE X cA W fa a) (hb : DE X cA W fb b) : DE X cA W (dOp2 gShr fa fb) (.BinOp a .RShift b pos) := de_op op_shr (vop_ii fun i j h => of_decide_eq_true h) ha hb
theorem de_and (ha : DE X cA W fa a) (hb : DE X cA W fb b) : DE X cA W (dOp2 gAnd fa fb) (.BinOp a .BitAnd b pos) := de_op op_and vop_ii0 ha hb
theorem de_or (ha : DE X cA W fa a) (hb : DE X cA W fb b) : DE X cA W (dOp2 gOrB fa fb) (.BinOp a .BitOr b pos) := de_op op_or vop_ii0 ha hb
end
structure VU (K : PySem.W.Frag) (cA : Str → Addr) (r : V → Hp → VK → Prop) (g : D → Option D) : Prop where
  run : ∀ {d1 d : D} {v1 : V} {H : Hp} {Z : ZS} {f1 : FP} {Q : VK}, RepD K cA H Z d1 v1 f1 → Wf H Z [] → g d1 = some d →
  (∀ v H' Z' fp, RepD K cA H' Z' d v fp → Wf H' Z' fp → Fr H Z [] H' Z' fp → Q v H') → r v1 H Q
def dU (g : D → Option D) (fa : Env → Out D) : Env → Out D := fun ρ => match fa ρ with
  | .ok d1 ρ1 => (match g d1 with
    | some d => .ok d ρ1
    | none => .st)
  | .ex e ρ1 => .ex e ρ1
  | .st => .st
section
variable {X : Cx} {cA : Str → Addr} {W : WX} {fa fb : Env → Out D} {a b : Expr} {pos : Pos}
theorem te_un {K : PySem.W.Frag} {r : V → Hp → VK → Prop} {g : D → Option D} (V : VU K cA r g) : ∀ σ H Q, TEof K cA W (dU g fa) σ H Q → tUn r (TPof K cA W fa) σ H Q := by
  rintro σ H Q ⟨Z, L, ρ, r, w, p⟩
  refine ⟨Z, L, ρ, r, w, ?_⟩
  unfold dU at p
  cases ha : fa ρ with
  | st => rw [ha] at p; exact p
  | ex e ρ' => rw [ha] at p; exact p
  | ok d1 ρ1 =>
    rw [ha] at p
    intro v1 H1 Z1 L1 f1 r1 w1 h1 F1
    dsimp only at p
    cases hg : g d1 with
    | none => rw [hg] at p; exact p.elim
    | some d =>
      rw [hg] at p
      refine V.run h1 (wf0 w1) hg fun v H2 Z2 fp h2 w2 F2 => ?_
      obtain ⟨r3, w3, F3⟩ := hand0 w1 r1 F2 w2
      exact p v H2 Z2 L1 fp r3 w3 h2 (F1.trans F3)
theorem vu_at {K : PySem.W.Frag} {r : V → Hp → VK → Prop} {g : D → Option D} (h : ∀ d1 d, g d1 = some d → ∃ x z, d1 = .a x ∧ d = .a z ∧ ∀ H (Q : VK), Q z.v H → r x.v H Q) : VU K cA r g := by
  refine ⟨@fun d1 d v1 H Z f1 Q h1 w hg q => ?_⟩
  obtain ⟨x, z, rfl, rfl, hr⟩ := h d1 d hg
  obtain ⟨e1, e2⟩ := h1
  subst e1 e2
  exact hr H Q (q _ H Z [] ⟨rfl, rfl⟩ w Fr.refl)
theorem de_un {op : UnaryOp} {r : V → Hp → VK → Prop} {g : D → Option D} (ho : UnR X (unaryOp op) r) (V : VU X.K cA r g) (ha : DP X cA W fa a) : DE X cA W (dU g fa) (.UnaryOp op a pos) := PE.imp (pe_un ho ha) (te_un V)
def gI (f : Int → Int) : D → Option D
  | .a (.int i) => some (.int (f i))
  | _ => none
theorem vu_i {K : PySem.W.Frag} {f : Int → Int} : VU K cA (rU fun i => .int (f i)) (gI f) := vu_at fun d1 d hg => by
  unfold gI at hg
  split at hg
  · rename_i i
    cases hg
    exact ⟨_, _, rfl, rfl, fun H Q q => ⟨i, rfl, q⟩⟩
  · cases hg
abbrev gNeg : D → Option D := gI fun i => -i
abbrev gInv : D → Option D := gI Builtin.bitNot
theorem de_neg (ha : DE X cA W fa a) : DE X cA W (dU gNeg fa) (.UnaryOp .USub a pos) := de_un un_neg vu_i (dp_de ha)
theorem de_inv (ha : DE X cA W fa a) : DE X cA W (dU gInv fa) (.UnaryOp .Invert a pos) := de_un un_inv vu_i (dp_de ha)
def VC1 (K : PySem.W.Frag) (cA : Str → Addr) (r : List V → Hp → VK → Prop) (g : D → Option D) : Prop := VU K cA (fun v H Q => r [v] H Q) g
theorem te_c1 {K : PySem.W.Frag} {r : List V → Hp → VK → Prop} {g : D → Option D} (V : VC1 K cA r g) : ∀ σ H Q, TEof K cA W (dU g fa) σ H Q → tCB r (tCons (TPof K cA W fa) tNil) σ H Q := te_un (r := fun v H Q => r [v] H Q) V
theorem de_callB {id : String} {x : Str} {p : Pos} {r : List V → Hp → VK → Prop} {g : D → Option D} (hc : CallR X (.builtin id) r) (V : VC1 X.K cA r g) (hg : Gl X x) (hm : X.mg x = none) (hv : bootBuiltins x = some (.builtin id)) (ha : DP X cA W fa a)
    (hn : x ≠ "__name__" := by decide +kernel) (hdb : (x == ("__debug__" : Str)) = false := by kernel_rfl)
    (he : starEach [a] X.env = [(false, eval a X.env)] := by kernel_rfl) (hs : starEach [a] X.env = (false, eval a X.env) :: starEach [] X.env := by kernel_rfl) : DE X cA W (dU g fa) (.Call (.Name x p) [a] [] pos) :=
  PE.imp (pe_callB hc hg hm hv (pa_cons ha pa_nil hs) hn hdb hs rfl) (te_c1 V)
theorem de_callTy {T : String} {x : Str} {p : Pos} {r : List V → Hp → VK → Prop} {g : D → Option D} (hc : CallR X (.type T) r) (V : VC1 X.K cA r g) (hg : Gl X x) (hm : X.mg x = none) (hv : bootBuiltins x = some (.type T)) (ha : DP X cA W fa a)
    (hn : x ≠ "__name__" := by decide +kernel) (hdb : (x == ("__debug__" : Str)) = false := by kernel_rfl)
    (hs : starEach [a] X.env = (false, eval a X.env) :: starEach [] X.env := by kernel_rfl) : DE X cA W (dU g fa) (.Call (.Name x p) [a] [] pos) :=
  PE.imp (pe_callTy hc hg hm hv (pa_cons ha pa_nil hs) hn hdb hs rfl) (te_c1 V)
def gLen : D → Option D
  | .n .scr _ xs => some (.int xs.length)
  | .n .lst _ xs => some (.int xs.length)
  | .n .tup _ xs => some (.int xs.length)
  | .a (.str s) => if s.length ≤ cap then some (.int s.length) else none
  | _ => none
theorem vc_len {K : PySem.W.Frag} : VC1 K cA (fun xs H Q => ∃ x n, xs = [x] ∧ LenV K x H n ∧ Q (.int n) H) gLen := by
  refine ⟨@fun d1 d v1 H Z f1 Q h1 w hg q => ?_⟩
  unfold gLen at hg
  split at hg
  · rename_i o xs
    cases hg
    obtain ⟨p, vs, rfl, e1, r1, _⟩ := rep_scr h1
    exact ⟨_, xs.length, rfl, .inl ⟨vs, e1, (repL_len r1).symm⟩, q _ H Z [] ⟨rfl, rfl⟩ w Fr.refl⟩
  · rename_i o xs
    cases hg
    obtain ⟨p, vs, g, rfl, e1, r1, _, _⟩ := rep_lst h1
    exact ⟨_, xs.length, rfl, .inl ⟨vs, SqL.of e1, (repL_len r1).symm⟩, q _ H Z [] ⟨rfl, rfl⟩ w Fr.refl⟩
  · rename_i o xs
    cases hg
    obtain ⟨p, vs, rfl, e1, r1, _⟩ := rep_tup h1
    exact ⟨_, xs.length, rfl, .inr ⟨vs, e1, (repL_len r1).symm⟩, q _ H Z [] ⟨rfl, rfl⟩ w Fr.refl⟩
  · rename_i s
    split at hg
    · rename_i hs
      cases hg
      obtain ⟨e, _⟩ := h1
      subst e
      exact ⟨_, s.length, rfl, ⟨cap_le hs, rfl⟩, q _ H Z [] ⟨rfl, rfl⟩ w Fr.refl⟩
    · cases hg
  · cases hg
theorem de_len {x : Str} {p : Pos} (hg : Gl X x) (hm : X.mg x = none) (hv : bootBuiltins x = some (.builtin "len")) (ha : DP X cA W fa a) (hn : x ≠ "__name__" := by decide +kernel) (hdb : (x == ("__debug__" : Str)) = false := by kernel_rfl)
    (hs : starEach [a] X.env = (false, eval a X.env) :: starEach [] X.env := by kernel_rfl) : DE X cA W (dU gLen fa) (.Call (.Name x p) [a] [] pos) := de_callB call_len vc_len hg hm hv ha hn hdb hs hs
def gTuple : D → Option D
  | .n .lst _ xs => if isFL xs = true then some (.tup xs) else none
  | .n .tup _ xs => some (.tup xs)
  | _ => none
def gList : D → Option D
  | .n .lst _ xs => if isFL xs = true then some (.lst true xs) else none
  | .n .tup _ xs => some (.lst true xs)
  | _ => none
theorem vc_tuple {K : PySem.W.Frag} : VC1 K cA (fun xs H Q => ∃ p ys, xs = [.ref p] ∧ ((SqL K H p ys ∧ ∀ l, H l = none → Q (.ref l) (upd H l (.tup ys))) ∨ (SqT K H p ys ∧ Q (.ref p) H))) gTuple := by
  refine ⟨@fun d1 d v1 H Z f1 Q h1 w hg q => ?_⟩
  unfold gTuple at hg
  split at hg
  · rename_i o xs
    split at hg
    · rename_i hf
      cases hg
      obtain ⟨p, vs, g, rfl, e1, r1, _, _⟩ := rep_lst h1
      refine ⟨p, vs, rfl, .inl ⟨SqL.of e1, fun l hl => ?_⟩⟩
      obtain ⟨a, b, c⟩ := new_tup w (repL_fl r1 hf) hl
      exact q _ _ _ _ a b c
    · cases hg
  · rename_i o xs
    cases hg
    obtain ⟨p, vs, rfl, e1, r1, _, ho, c1⟩ := rep_tup h1
    exact ⟨p, vs, rfl, .inr ⟨e1, q _ H Z [] ⟨p, vs, [], rfl, r1, ⟨rfl, c1⟩, rfl, fun _ => rfl⟩ w Fr.refl⟩⟩
  · cases hg
theorem de_tuple {x : Str} {p : Pos} (hg : Gl X x) (hm : X.mg x = none) (hv : bootBuiltins x = some (.type "tuple")) (ha : DP X cA W fa a) (hn : x ≠ "__name__" := by decide +kernel) (hdb : (x == ("__debug__" : Str)) = false := by kernel_rfl)
    (hs : starEach [a] X.env = (false, eval a X.env) :: starEach [] X.env := by kernel_rfl) : DE X cA W (dU gTuple fa) (.Call (.Name x p) [a] [] pos) := de_callTy call_tuple_of vc_tuple hg hm hv ha hn hdb hs
def gInt : D → Option D
  | .a (.int i) => some (.int i)
  | .a (.bl k) => some (.int (if k = true then 1 else 0))
  | _ => none
abbrev gAbs : D → Option D := gI fun i => if i < 0 then -i else i
theorem vc_abs {K : PySem.W.Frag} : VC1 K cA (fun xs H Q => ∃ i, xs = [.int i] ∧ Q (.int (if i < 0 then -i else i)) H) gAbs := vu_at fun d1 d hg => by
  unfold gAbs gI at hg
  split at hg
  · rename_i i
    cases hg
    exact ⟨_, _, rfl, rfl, fun H Q q => ⟨i, rfl, q⟩⟩
  · cases hg
theorem de_abs {x : Str} {p : Pos} (hg : Gl X x) (hm : X.mg x = none) (hv : bootBuiltins x = some (.builtin "abs")) (ha : DP X cA W fa a) (hn : x ≠ "__name__" := by decide +kernel) (hdb : (x == ("__debug__" : Str)) = false := by kernel_rfl)
    (hs : starEach [a] X.env = (false, eval a X.env) :: starEach [] X.env := by kernel_rfl) : DE X cA W (dU gAbs fa) (.Call (.Name x p) [a] [] pos) := de_callB call_abs vc_abs hg hm hv ha hn hdb hs hs
end
end DL
namespace DL
open PySem L2
def strG (s : Str) : Bool := s.cps.all (· < 0x110000)
mutual
def pD (n : Nat) : D → Bool
  | .a (.str s) => strG s
  | .a _ => true
  | .n .tup _ xs => (match n with | 0 => false | m + 1 => pDL m xs)
  | .n .lst _ xs => (match n with | 0 => false | m + 1 => pDL m xs)
  | _ => false
def pDL (n : Nat) : List D → Bool
  | [] => true
  | x :: xs => pD n x && pDL n xs
end
def eqA : At → At → Bool
  | .non, .non => true
  | .bl a, .bl b => a == b
  | .bl a, .int b => (if a = true then 1 else 0) == b
  | .int a, .bl b => a == (if b = true then 1 else 0)
  | .int a, .int b => a == b
  | .str a, .str b => a == b
  | _, _ => false
mutual
def eqD : D → D → Bool
  | .a x, .a y => eqA x y
  | .n .tup _ xs, .n .tup _ ys => eqDL xs ys
  | .n .lst _ xs, .n .lst _ ys => eqDL xs ys
  | _, _ => false
def eqDL : List D → List D → Bool
  | [], [] => true
  | x :: xs, y :: ys => eqD x y && eqDL xs ys
  | _, _ => false
end
mutual
def pyD : D → PyData
  | .a .non => .none
  | .a (.bl b) => .bool b
  | .a (.int i) => .int i
  | .a (.str s) => .str s
  | .n .tup _ xs => .tuple (pyL xs)
  | .n .lst _ xs => .list (pyL xs)
  | _ => .none
def pyL : List D → List PyData
  | [] => []
  | x :: xs => pyD x :: pyL xs
end
mutual
theorem lay_pD : ∀ (n : Nat) (d : D), pD n d = true → PyData.canLay0 (pyD d) = true ∧ PyData.depth (pyD d) ≤ n
  | n, .a .non, _ => ⟨by simp [pyD, PyData.canLay0], by simp [pyD, PyData.depth]⟩
  | n, .a (.bl b), _ => ⟨by simp [pyD, PyData.canLay0], by simp [pyD, PyData.depth]⟩
  | n, .a (.int i), _ => ⟨by simp [pyD, PyData.canLay0], by simp [pyD, PyData.depth]⟩
  | n, .a (.str s), h => ⟨by
      have h : strG s = true := by simpa [pD] using h
      simp only [pyD, PyData.canLay0]
      exact h, by simp [pyD, PyData.depth]⟩
  | 0, .n .tup _ xs, h => by simp [pD] at h
  | n + 1, .n .tup _ xs, h => by
    have h : pDL n xs = true := by simpa [pD] using h
    obtain ⟨a, b⟩ := lay_pDL n xs h
    exact ⟨by simpa [pyD, PyData.canLay0] using a, by simpa [pyD, PyData.depth] using b⟩
  | 0, .n .lst _ xs, h => by simp [pD] at h
  | n + 1, .n .lst _ xs, h => by
    have h : pDL n xs = true := by simpa [pD] using h
    obtain ⟨a, b⟩ := lay_pDL n xs h
    exact ⟨by simpa [pyD, PyData.canLay0] using a, by simpa [pyD, PyData.depth] using b⟩
  | _, .n .scr _ _, h => by simp [pD] at h
  | _, .n (.dct _) _ _, h => by simp [pD] at h
  | _, .n (.ins _ _) _ _, h => by simp [pD] at h
theorem lay_pDL : ∀ (n : Nat) (ds : List D), pDL n ds = true → PyData.canLayAll0 (pyL ds) = true ∧ PyData.depthAll (pyL ds) ≤ n
  | n, [], _ => ⟨by simp [pyL, PyData.canLayAll0], by simp [pyL, PyData.depthAll]⟩
  | n, x :: xs, h => by
    have h : (pD n x && pDL n xs) = true := by simpa only [pDL] using h
    rw [Bool.and_eq_true] at h
    obtain ⟨a, b⟩ := lay_pD n x h.1
    obtain ⟨c, d⟩ := lay_pDL n xs h.2
    refine ⟨?_, ?_⟩
    · simp only [pyL, PyData.canLayAll0, a, c, Bool.and_self]
    · simp only [pyL, PyData.depthAll]; omega
end
mutual
theorem eqv_D : ∀ (d e : D) (n m : Nat), pD n d = true → pD m e = true → PyData.eqv (pyD d) (pyD e) = eqD d e
  | .a x, .a y, _, _, _, _ => by cases x <;> cases y <;> simp [pyD, PyData.eqv, eqD, eqA]
  | .a x, .n .tup _ ys, _, _, _, _ => by cases x <;> simp [pyD, PyData.eqv, eqD]
  | .a x, .n .lst _ ys, _, _, _, _ => by cases x <;> simp [pyD, PyData.eqv, eqD]
  | .n .tup _ xs, .a y, _, _, _, _ => by cases y <;> simp [pyD, PyData.eqv, eqD]
  | .n .lst _ xs, .a y, _, _, _, _ => by cases y <;> simp [pyD, PyData.eqv, eqD]
  | .n .tup _ xs, .n .lst _ ys, _, _, _, _ => by simp [pyD, PyData.eqv, eqD]
  | .n .lst _ xs, .n .tup _ ys, _, _, _, _ => by simp [pyD, PyData.eqv, eqD]
  | .n .tup _ xs, .n .tup _ ys, n, m, h, k => by
    cases n with
    | zero => simp [pD] at h
    | succ n =>
      cases m with
      | zero => simp [pD] at k
      | succ m =>
        simp only [pyD, PyData.eqv, eqD]
        exact eqv_DL xs ys n m (by simpa [pD] using h) (by simpa [pD] using k)
  | .n .lst _ xs, .n .lst _ ys, n, m, h, k => by
    cases n with
    | zero => simp [pD] at h
    | succ n =>
      cases m with
      | zero => simp [pD] at k
      | succ m =>
        simp only [pyD, PyData.eqv, eqD]
        exact eqv_DL xs ys n m (by simpa [pD] using h) (by simpa [pD] using k)
  | .n .scr _ _, _, _, _, h, _ => by simp [pD] at h
  | .n (.dct _) _ _, _, _, _, h, _ => by simp [pD] at h
  | .n (.ins _ _) _ _, _, _, _, h, _ => by simp [pD] at h
  | _, .n .scr _ _, _, _, _, h => by simp [pD] at h
  | _, .n (.dct _) _ _, _, _, _, h => by simp [pD] at h
  | _, .n (.ins _ _) _ _, _, _, _, h => by simp [pD] at h
theorem eqv_DL : ∀ (d e : List D) (n m : Nat), pDL n d = true → pDL m e = true → PyData.eqvAll (pyL d) (pyL e) = eqDL d e
  | [], [], _, _, _, _ => by simp [pyL, PyData.eqvAll, eqDL]
  | [], y :: ys, _, _, _, _ => by simp [pyL, PyData.eqvAll, eqDL]
  | x :: xs, [], _, _, _, _ => by simp [pyL, PyData.eqvAll, eqDL]
  | x :: xs, y :: ys, n, m, h, k => by
    have h : (pD n x && pDL n xs) = true := by simpa only [pDL] using h
    have k : (pD m y && pDL m ys) = true := by simpa only [pDL] using k
    rw [Bool.and_eq_true] at h k
    simp only [pyL, PyData.eqvAll, eqDL]
    rw [eqv_D x y n m h.1 k.1, eqv_DL xs ys n m h.2 k.2]
end
section
variable {K : PySem.W.Frag} {cA : Str → Addr} {H : Hp} {Z : ZS}
mutual
theorem rep_dp : ∀ (d : D) (n : Nat) {v : V} {fp : FP}, pD n d = true → RepD K cA H Z d v fp → Dp K H v (pyD d)
  | .a x, _, v, fp, _, h => by
    obtain ⟨e, _⟩ := h
    subst e
    cases x with
    | non => simpa [pyD, At.v] using Dp.non
    | bl b => simpa [pyD, At.v] using Dp.bl b
    | int i => simpa [pyD, At.v] using Dp.int i
    | str s => simpa [pyD, At.v] using Dp.str s
  | .n .tup o xs, n, v, fp, hp, h => by
    obtain ⟨p, vs, rfl, e1, r1, _⟩ := rep_tup h
    cases n with
    | zero => simp [pD] at hp
    | succ n =>
      simp only [pyD]
      exact Dp.tup e1 (rep_dpL xs n (by simpa [pD] using hp) r1)
  | .n .lst o xs, n, v, fp, hp, h => by
    obtain ⟨p, vs, g, rfl, e1, r1, _⟩ := rep_lst h
    cases n with
    | zero => simp [pD] at hp
    | succ n =>
      simp only [pyD]
      exact Dp.lst (SqL.of e1) (rep_dpL xs n (by simpa [pD] using hp) r1)
  | .n .scr _ _, _, _, _, h, _ => by simp [pD] at h
  | .n (.dct _) _ _, _, _, _, h, _ => by simp [pD] at h
  | .n (.ins _ _) _ _, _, _, _, h, _ => by simp [pD] at h
theorem rep_dpL : ∀ (ds : List D) (n : Nat) {vs : List V} {g : FP}, pDL n ds = true → RepL K cA H Z ds vs g → DpAll K H vs (pyL ds)
  | [], _, _, _, _, h => by
    rw [h.1]
    simpa [pyL] using DpAll.nil
  | x :: xs, n, vs, g, hp, h => by
    have hp : (pD n x && pDL n xs) = true := by simpa only [pDL] using hp
    rw [Bool.and_eq_true] at hp
    obtain ⟨v, vs', f1, f2, ev, h1, h2, _⟩ := h
    subst ev
    simp only [pyL]
    exact DpAll.cons (rep_dp x n hp.1 h1) (rep_dpL xs n hp.2 h2)
end
theorem shaped_pD {d : D} {n : Nat} (h : pD n d = true) (hn : n ≤ 64) : SeqAt.shaped (pyD d) = true := by
  obtain ⟨a, b⟩ := lay_pD n d h
  unfold SeqAt.shaped
  rw [a, Bool.true_and, decide_eq_true_eq]
  exact Nat.le_trans b hn
end
def gEqA : D → D → Option D
  | .a x, .a y => if scal x.v y.v = true then some (.bl (decide (x = y))) else none
  | _, _ => none
def gNeA : D → D → Option D
  | .a x, .a y => if scal x.v y.v = true then some (.bl (!decide (x = y))) else none
  | _, _ => none
theorem At.v_inj : ∀ x y : At, x.v = y.v ↔ x = y := by
  intro x y
  cases x <;> cases y <;> simp [At.v]
def gEqP (d e : D) : Option D := if pD 60 d = true ∧ pD 60 e = true then some (.bl (eqD d e)) else none
def gNeP (d e : D) : Option D := if pD 60 d = true ∧ pD 60 e = true then some (.bl (!eqD d e)) else none
section
variable {K : PySem.W.Frag} {cA : Str → Addr}
theorem vop_eqA : VOp2 K cA rEq gEqA := vop_at fun d1 d2 d hg => by
  unfold gEqA at hg
  split at hg
  · rename_i x y
    split at hg
    · rename_i hs
      cases hg
      refine ⟨_, _, _, rfl, rfl, rfl, fun H Q q => ⟨hs, ?_⟩⟩
      have : decide (x.v = y.v) = decide (x = y) := decide_eq_decide.mpr (At.v_inj x y)
      rw [this]; exact q
    · cases hg
  · cases hg
theorem vop_neA : VOp2 K cA rNe gNeA := vop_at fun d1 d2 d hg => by
  unfold gNeA at hg
  split at hg
  · rename_i x y
    split at hg
    · rename_i hs
      cases hg
      refine ⟨_, _, _, rfl, rfl, rfl, fun H Q q => ⟨hs, ?_⟩⟩
      have : decide (x.v = y.v) = decide (x = y) := decide_eq_decide.mpr (At.v_inj x y)
      rw [this]; exact q
    · cases hg
  · cases hg
theorem vop_fin {H : Hp} {Z : ZS} {f1 f2 : FP} {Q : VK} {x : At} (w : Wf H Z (f1 ++ f2)) (q : ∀ v H' Z' fp, RepD K cA H' Z' (.a x) v fp → Wf H' Z' fp → Fr H Z (f1 ++ f2) H' Z' fp → Q v H') : Q x.v H :=
  q _ H Z [] ⟨rfl, rfl⟩ (wf0 w) (Fr.refl.less fun _ m => nomatch m)
theorem vop_eqP : VOp2 K cA (rEqD K) gEqP := by
  refine ⟨@fun d1 d2 d v1 v2 H Z f1 f2 Q h1 h2 w hg q => ?_⟩
  unfold gEqP at hg
  split at hg
  · rename_i hp
    cases hg
    refine ⟨pyD d1, pyD d2, rep_dp d1 60 hp.1 h1, rep_dp d2 60 hp.2 h2, shaped_pD hp.1 (by decide), shaped_pD hp.2 (by decide), ?_⟩
    rw [eqv_D d1 d2 60 60 hp.1 hp.2]
    exact vop_fin (x := .bl _) w q
  · cases hg
theorem vop_neP : VOp2 K cA (rNeD K) gNeP := by
  refine ⟨@fun d1 d2 d v1 v2 H Z f1 f2 Q h1 h2 w hg q => ?_⟩
  unfold gNeP at hg
  split at hg
  · rename_i hp
    cases hg
    refine ⟨pyD d1, pyD d2, rep_dp d1 60 hp.1 h1, rep_dp d2 60 hp.2 h2, shaped_pD hp.1 (by decide), shaped_pD hp.2 (by decide), ?_⟩
    rw [eqv_D d1 d2 60 60 hp.1 hp.2]
    exact vop_fin (x := .bl _) w q
  · cases hg
def gIsNot : D → D → Option D
  | .a (.bl x), .a (.bl y) => some (.bl (!decide (x = y)))
  | .a x, .a .non => some (.bl (!decide (x = .non)))
  | .n _ _ _, .a .non => some (.bl true)
  | _, _ => none
theorem rep_n_ref {H : Hp} {Z : ZS} {k : Kd} {o : Bool} {xs : List D} {v : V} {fp : FP} (h : RepD K cA H Z (.n k o xs) v fp) : ∃ p, v = .ref p := let ⟨p, _, _, e, _⟩ := h; ⟨p, e⟩
theorem vop_isnot : VOp2 K cA (fun x y H Q => rNotB x y H Q ∨ (y = .non ∧ Q (.bl (!decide (x = .non))) H)) gIsNot := by
  refine ⟨@fun d1 d2 d v1 v2 H Z f1 f2 Q h1 h2 w hg q => ?_⟩
  unfold gIsNot at hg
  split at hg
  · rename_i x y
    cases hg
    obtain ⟨e1, _⟩ := h1
    obtain ⟨e2, _⟩ := h2
    subst e1 e2
    exact .inl ⟨x, y, rfl, rfl, vop_fin (x := .bl _) w q⟩
  · rename_i x
    cases hg
    obtain ⟨e1, _⟩ := h1
    obtain ⟨e2, _⟩ := h2
    subst e1 e2
    refine .inr ⟨rfl, ?_⟩
    have : decide (x.v = V.non) = decide (x = At.non) := decide_eq_decide.mpr (At.v_inj x .non)
    rw [this]
    exact vop_fin (x := .bl _) w q
  · cases hg
    obtain ⟨p, e1⟩ := rep_n_ref h1
    obtain ⟨e2, _⟩ := h2
    subst e1 e2
    exact .inr ⟨rfl, vop_fin (x := .bl true) w q⟩
  · cases hg
def isA : D → Bool
  | .a _ => true
  | _ => false
def anyEq (x : D) : List D → Bool
  | [] => false
  | y :: ys => eqD y x || anyEq x ys
def gInB (x : D) : D → Option Bool
  | .n .lst _ ys => if pD 60 x = true ∧ pDL 60 ys = true then some (anyEq x ys) else none
  | .n .tup _ ys => if isA x = true ∧ ys.all isA = true then some (anyEq x ys) else if pD 60 x = true ∧ pDL 60 ys = true then some (anyEq x ys) else none
  | .a (.str t) => (match x with
    | .a (.str s) => some (!(Builtin.Str.occurrences t s 0 t.length 1).isEmpty)
    | _ => none)
  | _ => none
def gIn (x y : D) : Option D := (gInB x y).map D.bl
def gNotIn (x y : D) : Option D := (gInB x y).map fun b => D.bl (!b)
theorem any_eqv {n m : Nat} {x : D} (hx : pD n x = true) : ∀ {ys : List D}, pDL m ys = true → ((pyL ys).any fun z => PyData.eqv z (pyD x)) = anyEq x ys
  | [], _ => rfl
  | y :: ys, h => by
    have h : (pD m y && pDL m ys) = true := by simpa only [pDL] using h
    rw [Bool.and_eq_true] at h
    simp only [pyL, List.any_cons, anyEq]
    rw [eqv_D y x m n h.1 hx, any_eqv hx h.2]
theorem flat_at (x : At) : flatV x.v = true := by cases x <;> rfl
theorem eqV_at (x y : At) : eqV x.v y.v = eqA x y := by cases x <;> cases y <;> simp [At.v, eqV, eqA]
theorem repL_atoms {H : Hp} {Z : ZS} : ∀ {ys : List D} {vs : List V} {g : FP}, RepL K cA H Z ys vs g → ys.all isA = true → vs.all flatV = true ∧ ∀ x : At, inV x.v vs = anyEq (.a x) ys
  | [], vs, g, h, _ => by
    rw [h.1]
    exact ⟨rfl, fun x => rfl⟩
  | y :: ys, vs, g, h, ha => by
    obtain ⟨v, vs', f1, f2, ev, h1, h2, _⟩ := h
    rw [List.all_cons, Bool.and_eq_true] at ha
    cases y with
    | n k o xs => simp [isA] at ha
    | a z =>
      obtain ⟨e1, _⟩ := h1
      subst ev e1
      obtain ⟨a, b⟩ := repL_atoms h2 ha.2
      refine ⟨by rw [List.all_cons, flat_at, a]; rfl, fun x => ?_⟩
      have b' := b x
      unfold inV at b' ⊢
      rw [List.any_cons, b', eqV_at]
      rfl
def rInAll (K : PySem.W.Frag) (neg : Bool) : R2 := fun x y H Q => (∃ b, ((∃ d ds, Dp K H x d ∧ Dp K H y (.list ds) ∧ SeqAt.shaped d = true ∧ SeqAt.shaped (.list ds) = true ∧ b = ds.any fun z => PyData.eqv z d) ∨
  (∃ p xs, y = .ref p ∧ (SqL K H p xs ∨ SqT K H p xs) ∧ flatV x = true ∧ xs.all flatV = true ∧ b = inV x xs) ∨ (∃ i j, x = .str i ∧ y = .str j ∧ b = !(Builtin.Str.occurrences j i 0 j.length 1).isEmpty) ∨ ∃ d ds, Dp K H x d ∧ Dp K H y (.tuple ds) ∧ SeqAt.shaped d = true ∧ SeqAt.shaped (.tuple ds) = true ∧ b = ds.any fun z => PyData.eqv z d) ∧ Q (.bl (if neg then !b else b)) H)
theorem gInB_ok {x y : D} {b neg : Bool} {v1 v2 : V} {H : Hp} {Z : ZS} {f1 f2 : FP} {Q : VK} (h1 : RepD K cA H Z x v1 f1) (h2 : RepD K cA H Z y v2 f2) (hg : gInB x y = some b) (q : Q (.bl (if neg then !b else b)) H) : rInAll K neg v1 v2 H Q := by
  refine ⟨b, ?_, q⟩
  unfold gInB at hg
  split at hg
  · rename_i o ys
    split at hg
    · rename_i hp
      cases hg
      obtain ⟨p, vs, g, rfl, e1, r1, _⟩ := rep_lst h2
      refine .inl ⟨pyD x, pyL ys, rep_dp x 60 hp.1 h1, Dp.lst (SqL.of e1) (rep_dpL ys 60 hp.2 r1), shaped_pD hp.1 (by decide), ?_, (any_eqv hp.1 hp.2).symm⟩
      exact shaped_pD (d := .lst o ys) (n := 61) (by simpa [pD] using hp.2) (by decide)
    · cases hg
  · rename_i o ys
    split at hg
    · rename_i hp
      cases hg
      obtain ⟨p, vs, rfl, e1, r1, _⟩ := rep_tup h2
      cases x with
      | n k o xs => simp [isA] at hp
      | a z =>
        obtain ⟨e, _⟩ := h1
        subst e
        obtain ⟨a, b⟩ := repL_atoms r1 hp.2
        exact .inr (.inl ⟨p, vs, rfl, .inr e1, flat_at z, a, (b z).symm⟩)
    · split at hg
      · rename_i hp
        cases hg
        obtain ⟨p, vs, rfl, e1, r1, _⟩ := rep_tup h2
        refine .inr (.inr (.inr ⟨pyD x, pyL ys, rep_dp x 60 hp.1 h1, Dp.tup e1 (rep_dpL ys 60 hp.2 r1), shaped_pD hp.1 (by decide), ?_, (any_eqv hp.1 hp.2).symm⟩))
        exact shaped_pD (d := .n .tup o ys) (n := 61) (by simpa [pD] using hp.2) (by decide)
      · cases hg
  · rename_i t
    split at hg
    · rename_i s
      cases hg
      obtain ⟨e1, _⟩ := h1
      obtain ⟨e2, _⟩ := h2
      subst e1 e2
      exact .inr (.inr (.inl ⟨s, t, rfl, rfl, rfl⟩))
    · cases hg
  · cases hg
theorem vop_in : VOpP K cA (rInAll K false) gIn := by
  refine ⟨@fun d1 d2 d v1 v2 H Z f1 f2 Q h1 h2 hg q => ?_⟩
  unfold gIn at hg
  cases e : gInB d1 d2 with
  | none => rw [e] at hg; cases hg
  | some b =>
    rw [e] at hg
    cases hg
    exact gInB_ok h1 h2 e (q _ rfl)
theorem vop_notin : VOpP K cA (rInAll K true) gNotIn := by
  refine ⟨@fun d1 d2 d v1 v2 H Z f1 f2 Q h1 h2 hg q => ?_⟩
  unfold gNotIn at hg
  cases e : gInB d1 d2 with
  | none => rw [e] at hg; cases hg
  | some b =>
    rw [e] at hg
    cases hg
    exact gInB_ok h1 h2 e (q _ rfl)
theorem gIn_at : ∀ d1 d2 d, gIn d1 d2 = some d → ∃ x, d = .a x := fun d1 d2 d h => by
  unfold gIn at h
  cases e : gInB d1 d2 with
  | none => rw [e] at h; cases h
  | some b => rw [e] at h; cases h; exact ⟨_, rfl⟩
theorem gNotIn_at : ∀ d1 d2 d, gNotIn d1 d2 = some d → ∃ x, d = .a x := fun d1 d2 d h => by
  unfold gNotIn at h
  cases e : gInB d1 d2 with
  | none => rw [e] at h; cases h
  | some b => rw [e] at h; cases h; exact ⟨_, rfl⟩
end
section
variable {X : Cx}
theorem op_inT2 (hu : X.A.units + 65 < cLine) : OpR X (compareOp .In) (fun x y H Q => ∃ d ds, Dp X.K H x d ∧ Dp X.K H y (.tuple ds) ∧ SeqAt.shaped d = true ∧ SeqAt.shaped (.tuple ds) = true ∧ Q (.bl (ds.any fun z => PyData.eqv z d)) H) := by
  intro pins s σ H x y v u Q I rx ry h
  obtain ⟨d, ds, hd, he, sd, se, q⟩ := h
  obtain ⟨as, r1⟩ := Dp.reads I d x v hd rx
  obtain ⟨bs, r2⟩ := Dp.reads I (.tuple ds) y u he ry
  exact SeqAt.in_tuple_reads r2 r1 (SeqAt.canLay_of_shaped se) (SeqAt.canLay_of_shaped sd) (PyProof.Rows.room_in_shaped sd hu) ⟨.bl _, H, I, rfl, q⟩
theorem op_notInT2 (hu : X.A.units + 65 < cLine) : OpR X (compareOp .NotIn) (fun x y H Q => ∃ d ds, Dp X.K H x d ∧ Dp X.K H y (.tuple ds) ∧ SeqAt.shaped d = true ∧ SeqAt.shaped (.tuple ds) = true ∧ Q (.bl (!ds.any fun z => PyData.eqv z d)) H) := by
  intro pins s σ H x y v u Q I rx ry h
  obtain ⟨d, ds, hd, he, sd, se, q⟩ := h
  obtain ⟨as, r1⟩ := Dp.reads I d x v hd rx
  obtain ⟨bs, r2⟩ := Dp.reads I (.tuple ds) y u he ry
  exact SeqAt.notIn_tuple_reads r2 r1 (SeqAt.canLay_of_shaped se) (SeqAt.canLay_of_shaped sd) (PyProof.Rows.room_in_shaped sd hu) ⟨.bl _, H, I, rfl, q⟩
theorem op_inAll (hu : X.A.units + 65 < cLine) : OpR X (compareOp .In) (rInAll X.K false) := by
  intro pins s σ H x y v u Q I rx ry h
  obtain ⟨b, h, q⟩ := h
  rcases h with ⟨d, ds, h1, h2, s1, s2, rfl⟩ | ⟨p, xs, h1, h2, h3, h4, rfl⟩ | ⟨i, j, h1, h2, rfl⟩ | ⟨d, ds, h1, h2, s1, s2, rfl⟩
  · exact op_inD hu pins s σ H x y v u Q I rx ry ⟨d, ds, h1, h2, s1, s2, q⟩
  · exact op_in_seq pins s σ H x y v u Q I rx ry ⟨p, xs, h1, h2, h3, h4, q⟩
  · exact op_in_str pins s σ H x y v u Q I rx ry ⟨i, j, h1, h2, q⟩
  · exact op_inT2 hu pins s σ H x y v u Q I rx ry ⟨d, ds, h1, h2, s1, s2, q⟩
theorem op_notInAll (hu : X.A.units + 65 < cLine) : OpR X (compareOp .NotIn) (rInAll X.K true) := by
  intro pins s σ H x y v u Q I rx ry h
  obtain ⟨b, h, q⟩ := h
  rcases h with ⟨d, ds, h1, h2, s1, s2, rfl⟩ | ⟨p, xs, h1, h2, h3, h4, rfl⟩ | ⟨i, j, h1, h2, rfl⟩ | ⟨d, ds, h1, h2, s1, s2, rfl⟩
  · exact op_notInD hu pins s σ H x y v u Q I rx ry ⟨d, ds, h1, h2, s1, s2, q⟩
  · exact op_notIn_seq pins s σ H x y v u Q I rx ry ⟨p, xs, h1, h2, h3, h4, q⟩
  · exact op_notin_str pins s σ H x y v u Q I rx ry ⟨i, j, h1, h2, q⟩
  · exact op_notInT2 hu pins s σ H x y v u Q I rx ry ⟨d, ds, h1, h2, s1, s2, q⟩
end
end DL
namespace DL
open PySem L2
abbrev gEq : D → D → Option D := gOr gEqA gEqP
abbrev gNe : D → D → Option D := gOr gNeA gNeP
abbrev gLt : D → D → Option D := gIB fun i j => decide (i < j)
abbrev gLe : D → D → Option D := gIB fun i j => decide (i ≤ j)
abbrev gGt : D → D → Option D := gIB fun i j => decide (j < i)
abbrev gGe : D → D → Option D := gIB fun i j => decide (j ≤ i)
structure CR2 (X : Cx) (cA : Str → Addr) (op : CmpOp) (g : D → D → Option D) : Prop where
  ex : ∃ r, OpR X (compareOp op) r ∧ VOp2 X.K cA r g ∧ op ≠ .In ∧ op ≠ .NotIn
section
variable {X : Cx} {cA : Str → Addr}
theorem cr_eq (hu : X.A.units + 64 < cLine) : CR2 X cA .Eq gEq := ⟨_, op_eq.or (op_eqD hu), vop_or vop_eqA vop_eqP, by decide, by decide⟩
theorem cr_ne (hu : X.A.units + 64 < cLine) : CR2 X cA .NotEq gNe := ⟨_, op_ne.or (op_neD hu), vop_or vop_neA vop_neP, by decide, by decide⟩
theorem cr_lt : CR2 X cA .Lt gLt := ⟨_, op_lt, vop_ib, by decide, by decide⟩
theorem cr_le : CR2 X cA .LtE gLe := ⟨_, op_le, vop_ib, by decide, by decide⟩
theorem cr_gt : CR2 X cA .Gt gGt := ⟨_, op_gt, vop_ib, by decide, by decide⟩
theorem cr_ge : CR2 X cA .GtE gGe := ⟨_, op_ge, vop_ib, by decide, by decide⟩
theorem cr_isnot : CR2 X cA .IsNot gIsNot := ⟨_, op_notBl.or op_notN, vop_isnot, by decide, by decide⟩
end
def dB (f : Env → Out D) : Env → Out Bool := fun ρ => match f ρ with
  | .ok (.a (.bl b)) ρ' => .ok b ρ'
  | .ok _ _ => .st
  | .ex e ρ' => .ex e ρ'
  | .st => .st
section
variable {X : Cx} {cA : Str → Addr} {W : WX} {fa fb fc : Env → Out D} {a b c : Expr} {pos : Pos}
theorem tt_of {K : PySem.W.Frag} {t : TE} {f : Env → Out D} (h : ∀ σ H Q, TEof K cA W f σ H Q → t σ H Q) : ∀ σ H Q, TTof K cA W (dB f) σ H Q → t σ H (fun x H' => ∃ k, x = .bl k ∧ Q k H') := by
  rintro σ H Q ⟨Z, L, ρ, r, w, p⟩
  refine h σ H _ ⟨Z, L, ρ, r, w, ?_⟩
  unfold dB at p
  cases hf : f ρ with
  | st => rw [hf] at p; exact p.elim
  | ex e ρ' => rw [hf] at p; exact p
  | ok d ρ' =>
    rw [hf] at p
    intro v H' Z' L' fp r' w' h' f'
    cases d with
    | n k o xs => exact p.elim
    | a x =>
      cases x with
      | bl k =>
        obtain ⟨e1, e2⟩ := h'
        subst e1 e2
        exact ⟨k, rfl, p H' Z' L' r' w' f'⟩
      | non => exact p.elim
      | int i => exact p.elim
      | str s => exact p.elim
theorem de_cr {op : CmpOp} {g : D → D → Option D} (C : CR2 X cA op g) (ha : DE X cA W fa a) (hb : DE X cA W fb b) : DE X cA W (dOp2 g fa fb) (.Compare a [op] [b] pos) := by
  obtain ⟨r, ho, V, h1, h2⟩ := C.ex
  exact de_cmp ho V ha hb (nomark b h1 h2)
theorem dt_cr {op : CmpOp} {g : D → D → Option D} (C : CR2 X cA op g) (ha : DE X cA W fa a) (hb : DE X cA W fb b) : DT X cA W (dB (dOp2 g fa fb)) (.Compare a [op] [b] pos) := by
  obtain ⟨r, ho, V, h1, h2⟩ := C.ex
  exact PT.imp (pt_cmpR ho ha hb (nomark b h1 h2)) (tt_of (te_op2 V))
theorem dt_in (hu : X.A.units + 65 < cLine) (ha : DE X cA W fa a) (hb : DP X cA W fb b) (hm : behindInMarks .In b = false := by kernel_rfl) : DT X cA W (dB (dOp2 gIn fa fb)) (.Compare a [.In] [b] pos) :=
  PT.imp (pt_cmpR (op_inAll hu) ha hb hm) (tt_of (te_opP vop_in gIn_at))
theorem dt_notin (hu : X.A.units + 65 < cLine) (ha : DE X cA W fa a) (hb : DP X cA W fb b) (hm : behindInMarks .NotIn b = false := by kernel_rfl) : DT X cA W (dB (dOp2 gNotIn fa fb)) (.Compare a [.NotIn] [b] pos) :=
  PT.imp (pt_cmpR (op_notInAll hu) ha hb hm) (tt_of (te_opP vop_notin gNotIn_at))
def dChain (g g' : D → D → Option D) (fa fb fc : Env → Out D) : Env → Out D := fun ρ => match fa ρ with
  | .ok d1 ρ1 => (match fb ρ1 with
    | .ok d2 ρ2 => (match g d1 d2 with
      | some (.a (.bl true)) => (match d2 with
        | .a y => (match fc ρ2 with
          | .ok d3 ρ3 => (match g' (.a y) d3 with
            | some d => .ok d ρ3
            | none => .st)
          | .ex e ρ3 => .ex e ρ3
          | .st => .st)
        | _ => .st)
      | some (.a (.bl false)) => .ok (.bl false) ρ2
      | _ => .st)
    | .ex e ρ2 => .ex e ρ2
    | .st => .st)
  | .ex e ρ1 => .ex e ρ1
  | .st => .st
theorem te_chain {K : PySem.W.Frag} {r r' : R2} {g g' : D → D → Option D} (V : VOp2 K cA r g) (V' : VOp2 K cA r' g') : ∀ σ H Q, TEof K cA W (dChain g g' fa fb fc) σ H Q → tChain r r' (TEof K cA W fa) (TEof K cA W fb) (TEof K cA W fc) σ H Q := by
  rintro σ H Q ⟨Z, L, ρ, r0, w, p⟩
  refine ⟨Z, L, ρ, r0, w, ?_⟩
  unfold dChain at p
  cases ha : fa ρ with
  | st => rw [ha] at p; exact p
  | ex e ρ' => rw [ha] at p; exact p
  | ok d1 ρ1 =>
    rw [ha] at p
    intro v1 H1 Z1 L1 f1 r1 w1 h1 F1
    refine ⟨Z1, L1, ρ1, r1, w1.less (List.sublist_append_right _ _), ?_⟩
    dsimp only at p
    cases hb : fb ρ1 with
    | st => rw [hb] at p; exact p
    | ex e ρ' =>
      rw [hb] at p
      exact exw p (F1.less fun x m => by simp [m])
    | ok d2 ρ2 =>
      rw [hb] at p
      intro v2 H2 Z2 L2 f2 r2 w2 h2 F2
      dsimp only at p
      have w12 : Wf H2 Z2 (f1 ++ (f2 ++ L2)) := w1.wait (repD_trk d1 h1) F2 w2
      have F12 := Fr.wait w1 F1 F2
      rw [← List.append_assoc] at w12 F12
      cases hg : g d1 d2 with
      | none => rw [hg] at p; exact p.elim
      | some d =>
        rw [hg] at p
        refine V.run (repD_wait w1 h1 F2) h2 (w12.less (List.sublist_append_left _ _)) hg fun v H3 Z3 fp h3 w3 F3 => ?_
        obtain ⟨r3, w4, F4⟩ := hand w12 r2 F3 w3
        cases d with
        | n k o xs => exact p.elim
        | a x =>
          cases x with
          | non => exact p.elim
          | int i => exact p.elim
          | str s => exact p.elim
          | bl k =>
            obtain ⟨e1, e2⟩ := h3
            subst e1 e2
            refine ⟨k, rfl, ?_⟩
            have F5 := F12.trans F4
            cases k with
            | false =>
              rw [if_neg Bool.false_ne_true]
              exact p _ H3 Z3 L2 [] r3 w4 ⟨rfl, rfl⟩ F5
            | true =>
              rw [if_pos rfl]
              dsimp only at p
              cases d2 with
              | n k o xs => exact p.elim
              | a y =>
                obtain ⟨e1, e2⟩ := h2
                subst e1 e2
                dsimp only at p
                refine ⟨Z3, L2, ρ2, r3, w4, ?_⟩
                cases hc : fc ρ2 with
                | st => rw [hc] at p; exact p
                | ex e ρ' =>
                  rw [hc] at p
                  exact exw p F5
                | ok d3 ρ3 =>
                  rw [hc] at p
                  intro v5 H5 Z5 L5 f5 r5 w5 h5 F6
                  dsimp only at p
                  cases hg' : g' (.a y) d3 with
                  | none => rw [hg'] at p; exact p.elim
                  | some d =>
                    rw [hg'] at p
                    refine V'.run (f1 := []) (d1 := .a y) ⟨rfl, rfl⟩ h5 (w5.less (List.sublist_append_left _ _)) hg' fun v H6 Z6 fp h6 w6 F7 => ?_
                    obtain ⟨r7, w7, F8⟩ := hand w5 r5 F7 w6
                    exact p v H6 Z6 L5 fp r7 w7 h6 ((F5.trans F6).trans F8)
theorem de_chain {op op' : CmpOp} {g g' : D → D → Option D} (C : CR2 X cA op g) (C' : CR2 X cA op' g') (ha : DE X cA W fa a) (hb : DE X cA W fb b) (hc : DE X cA W fc c)
    (hm : lastMarks [op, op'] [b, c] = false := by kernel_rfl) : DE X cA W (dChain g g' fa fb fc) (.Compare a [op, op'] [b, c] pos) := by
  obtain ⟨r, ho, V, h1, h2⟩ := C.ex
  obtain ⟨r', ho', V', h1', h2'⟩ := C'.ex
  exact PE.imp (pe_chain ho ho' ha hb hc hm) (te_chain V V')
theorem dt_val {f : Env → Out D} {e : Expr} (h : DE X cA W f e) (he : ∀ whole, isTrue e X.env whole = (do let v ← whole; standAt e.pos; holding [v] (truthy v)) := by intro _; kernel_rfl) : DT X cA W (dB f) e :=
  PT.imp (pt_val h he) (tt_of fun _ _ _ t => t)
def dAndT (f g : Env → Out Bool) : Env → Out Bool := fun ρ => match f ρ with
  | .ok true ρ1 => g ρ1
  | .ok false ρ1 => .ok false ρ1
  | .ex e ρ1 => .ex e ρ1
  | .st => .st
def dOrT (f g : Env → Out Bool) : Env → Out Bool := fun ρ => match f ρ with
  | .ok true ρ1 => .ok true ρ1
  | .ok false ρ1 => g ρ1
  | .ex e ρ1 => .ex e ρ1
  | .st => .st
def dNotT (f : Env → Out Bool) : Env → Out Bool := fun ρ => match f ρ with
  | .ok b ρ1 => .ok (!b) ρ1
  | .ex e ρ1 => .ex e ρ1
  | .st => .st
variable {ta tb : Env → Out Bool} {rest : List Expr}
theorem dw_and1 (ha : DT X cA W ta a) : DW X cA W ta (.BoolOp .And [a] pos) := pw_and1 ha
theorem dw_or1 (ha : DT X cA W ta a) : DW X cA W ta (.BoolOp .Or [a] pos) := pw_or1 ha
theorem tt_and {K : PySem.W.Frag} : ∀ σ H Q, TTof K cA W (dAndT ta tb) σ H Q → tAnd (TTof K cA W ta) (TTof K cA W tb) σ H Q := by
  rintro σ H Q ⟨Z, L, ρ, r0, w, p⟩
  refine ⟨Z, L, ρ, r0, w, ?_⟩
  unfold dAndT at p
  cases ha : ta ρ with
  | st => rw [ha] at p; exact p
  | ex e ρ' => rw [ha] at p; exact p
  | ok k ρ1 =>
    rw [ha] at p
    intro H1 Z1 L1 r1 w1 F1
    cases k with
    | false => exact p H1 Z1 L1 r1 w1 F1
    | true =>
      rw [if_pos rfl]
      refine ⟨Z1, L1, ρ1, r1, w1, ?_⟩
      dsimp only at p
      cases hb : tb ρ1 with
      | st => rw [hb] at p; exact p
      | ex e ρ' => rw [hb] at p; exact exw p F1
      | ok k ρ2 =>
        rw [hb] at p
        exact fun H2 Z2 L2 r2 w2 F2 => p H2 Z2 L2 r2 w2 (F1.trans F2)
theorem tt_or {K : PySem.W.Frag} : ∀ σ H Q, TTof K cA W (dOrT ta tb) σ H Q → tOr (TTof K cA W ta) (TTof K cA W tb) σ H Q := by
  rintro σ H Q ⟨Z, L, ρ, r0, w, p⟩
  refine ⟨Z, L, ρ, r0, w, ?_⟩
  unfold dOrT at p
  cases ha : ta ρ with
  | st => rw [ha] at p; exact p
  | ex e ρ' => rw [ha] at p; exact p
  | ok k ρ1 =>
    rw [ha] at p
    intro H1 Z1 L1 r1 w1 F1
    cases k with
    | true => exact p H1 Z1 L1 r1 w1 F1
    | false =>
      rw [if_neg Bool.false_ne_true]
      refine ⟨Z1, L1, ρ1, r1, w1, ?_⟩
      dsimp only at p
      cases hb : tb ρ1 with
      | st => rw [hb] at p; exact p
      | ex e ρ' => rw [hb] at p; exact exw p F1
      | ok k ρ2 =>
        rw [hb] at p
        exact fun H2 Z2 L2 r2 w2 F2 => p H2 Z2 L2 r2 w2 (F1.trans F2)
theorem tt_not {K : PySem.W.Frag} : ∀ σ H Q, TTof K cA W (dNotT ta) σ H Q → tNot (TTof K cA W ta) σ H Q := by
  rintro σ H Q ⟨Z, L, ρ, r0, w, p⟩
  refine ⟨Z, L, ρ, r0, w, ?_⟩
  unfold dNotT at p
  cases ha : ta ρ with
  | st => rw [ha] at p; exact p
  | ex e ρ' => rw [ha] at p; exact p
  | ok k ρ1 => rw [ha] at p; exact p
theorem dw_and (ha : DT X cA W ta a) (hb : DW X cA W tb (.BoolOp .And (b :: rest) pos)) : DW X cA W (dAndT ta tb) (.BoolOp .And (a :: b :: rest) pos) := PW.imp (pw_and ha hb) tt_and
theorem dw_or (ha : DT X cA W ta a) (hb : DW X cA W tb (.BoolOp .Or (b :: rest) pos)) : DW X cA W (dOrT ta tb) (.BoolOp .Or (a :: b :: rest) pos) := PW.imp (pw_or ha hb) tt_or
theorem dt_w {e : Expr} (h : DW X cA W ta e) : DT X cA W ta e := h.pt
theorem dt_not (ha : DT X cA W ta a) : DT X cA W (dNotT ta) (.UnaryOp .Not a pos) := PT.imp (pt_not ha) tt_not
def dAndV (f g : Env → Out D) : Env → Out D := fun ρ => match dB f ρ with
  | .ok true ρ1 => g ρ1
  | .ok false ρ1 => .ok (.bl false) ρ1
  | .ex e ρ1 => .ex e ρ1
  | .st => .st
def dOrV (f g : Env → Out D) : Env → Out D := fun ρ => match dB f ρ with
  | .ok true ρ1 => .ok (.bl true) ρ1
  | .ok false ρ1 => g ρ1
  | .ex e ρ1 => .ex e ρ1
  | .st => .st
def dNotV (f : Env → Out D) : Env → Out D := fun ρ => match dB f ρ with
  | .ok b ρ1 => .ok (.bl (!b)) ρ1
  | .ex e ρ1 => .ex e ρ1
  | .st => .st
theorem de_one {op} {f : Env → Out D} (h : DE X cA W f a) : DE X cA W f (.BoolOp op [a] pos) := pe_one h
theorem te_and {K : PySem.W.Frag} : ∀ σ H Q, TEof K cA W (dAndV fa fb) σ H Q → tAndV (TEof K cA W fa) (TEof K cA W fb) σ H Q := by
  rintro σ H Q ⟨Z, L, ρ, r0, w, p⟩
  refine tt_of (f := fa) (fun _ _ _ t => t) σ H (fun k H1 => if k = true then TEof K cA W fb σ H1 Q else Q (.bl false) H1) ⟨Z, L, ρ, r0, w, ?_⟩
  unfold dAndV at p
  cases ha : dB fa ρ with
  | st => rw [ha] at p; exact p
  | ex e ρ' => rw [ha] at p; exact p
  | ok k ρ1 =>
    rw [ha] at p
    intro H1 Z1 L1 r1 w1 F1
    cases k with
    | false =>
      show Q (.bl false) H1
      exact p _ H1 Z1 L1 [] r1 w1 ⟨rfl, rfl⟩ F1
    | true =>
      show TEof K cA W fb σ H1 Q
      refine ⟨Z1, L1, ρ1, r1, w1, ?_⟩
      dsimp only at p
      cases hb : fb ρ1 with
      | st => rw [hb] at p; exact p
      | ex e ρ' => rw [hb] at p; exact exw p F1
      | ok k ρ2 =>
        rw [hb] at p
        exact fun v H2 Z2 L2 fp r2 w2 h2 F2 => p v H2 Z2 L2 fp r2 w2 h2 (F1.trans F2)
theorem te_not {K : PySem.W.Frag} : ∀ σ H Q, TEof K cA W (dNotV fa) σ H Q → tNotV (TEof K cA W fa) σ H Q := by
  rintro σ H Q ⟨Z, L, ρ, r0, w, p⟩
  refine tt_of (f := fa) (fun _ _ _ t => t) σ H (fun k H1 => Q (.bl (!k)) H1) ⟨Z, L, ρ, r0, w, ?_⟩
  unfold dNotV at p
  cases ha : dB fa ρ with
  | st => rw [ha] at p; exact p
  | ex e ρ' => rw [ha] at p; exact p
  | ok k ρ1 =>
    rw [ha] at p
    exact fun H1 Z1 L1 r1 w1 F1 => p _ H1 Z1 L1 [] r1 w1 ⟨rfl, rfl⟩ F1
theorem de_and2 (ha : DE X cA W fa a) (hb : DE X cA W fb (.BoolOp .And (b :: rest) pos)) : DE X cA W (dAndV fa fb) (.BoolOp .And (a :: b :: rest) pos) := PE.imp (pe_and ha hb) te_and
theorem de_notV (ha : DE X cA W fa a) : DE X cA W (dNotV fa) (.UnaryOp .Not a pos) := PE.imp (pe_not ha) te_not
def dIfE (t : Env → Out Bool) (f g : Env → Out D) : Env → Out D := fun ρ => match t ρ with
  | .ok true ρ1 => f ρ1
  | .ok false ρ1 => g ρ1
  | .ex e ρ1 => .ex e ρ1
  | .st => .st
end
def dANil : Env → Out (List Ag) := fun ρ => .ok [] ρ
def dACons (f : Env → Out D) (g : Env → Out (List Ag)) : Env → Out (List Ag) := fun ρ => match f ρ with
  | .ok d ρ1 => (match g ρ1 with
    | .ok ds ρ2 => .ok (.d d :: ds) ρ2
    | .ex e ρ2 => .ex e ρ2
    | .st => .st)
  | .ex e ρ1 => .ex e ρ1
  | .st => .st
def dALent (i : Nat) (g : Env → Out (List Ag)) : Env → Out (List Ag) := fun ρ => match ρ[i]? with
  | some (some _) => (match g ρ with
    | .ok ds ρ2 => .ok (.s i :: ds) ρ2
    | .ex e ρ2 => .ex e ρ2
    | .st => .st)
  | _ => .st
section
variable {X : Cx} {cA : Str → Addr} {W : WX} {f : Env → Out D} {g : Env → Out (List Ag)} {e : Expr} {es : List Expr}
theorem da_nil : DA X cA W dANil [] := da_of pa_nil fun σ H Q Z L ρ r w p => p [] H Z L [] r w ⟨rfl, rfl⟩ Fr.refl
theorem da_cons (hf : DE X cA W f e) (hg : DA X cA W g es) (hs : starEach (e :: es) X.env = (false, eval e X.env) :: starEach es X.env := by kernel_rfl) : DA X cA W (dACons f g) (e :: es) := da_of (pa_cons hf hg hs) fun σ H Q Z L ρ r w p => by
  refine ⟨Z, L, ρ, r, w, ?_⟩
  unfold dACons at p
  cases ha : f ρ with
  | st => rw [ha] at p; exact p
  | ex e ρ' => rw [ha] at p; exact p
  | ok d1 ρ1 =>
    rw [ha] at p
    intro v1 H1 Z1 L1 f1 r1 w1 h1 F1
    refine ⟨Z1, L1, ρ1, r1, w1.less (List.sublist_append_right _ _), ?_⟩
    dsimp only at p
    cases hb : g ρ1 with
    | st => rw [hb] at p; exact p
    | ex e ρ' =>
      rw [hb] at p
      exact exw p (F1.less fun x m => by simp [m])
    | ok ds ρ2 =>
      rw [hb] at p
      intro vs H2 Z2 L2 f2 r2 w2 h2 F2
      have w12 : Wf H2 Z2 (f1 ++ (f2 ++ L2)) := w1.wait (repD_trk d1 h1) F2 w2
      have F12 := Fr.wait w1 F1 F2
      rw [← List.append_assoc] at w12 F12
      exact p (v1 :: vs) H2 Z2 L2 (f1 ++ f2) r2 w12 ⟨v1, vs, f1, f2, rfl, repD_wait w1 h1 F2, h2, rfl⟩ F12
theorem da_lent {i : Nat} (hf : PE X e (tVar i)) (hg : DA X cA W g es) (hs : starEach (e :: es) X.env = (false, eval e X.env) :: starEach es X.env := by kernel_rfl) : DA X cA W (dALent i g) (e :: es) := da_of (pa_cons hf hg hs) fun σ H Q Z L ρ r w p => by
  unfold dALent at p
  split at p
  · rename_i d hd
    obtain ⟨v, f0, f1, f2, hv, hr, ef, _, _⟩ := relL_at r hd
    refine ⟨v, hv, Z, L, ρ, r, w, ?_⟩
    cases hb : g ρ with
    | st => rw [hb] at p; exact p
    | ex e ρ' => rw [hb] at p; exact p
    | ok ds ρ2 =>
      rw [hb] at p
      exact fun vs H2 Z2 L2 fp r2 w2 h2 F2 => p (v :: vs) H2 Z2 L2 fp r2 w2 ⟨v, vs, rfl, hv, h2⟩ F2
  · exact p.elim
end
def agL : List Ag → Option (List D)
  | [] => some []
  | .d x :: xs => (agL xs).map (x :: ·)
  | .s _ :: _ => none
theorem repA_L {K : PySem.W.Frag} {cA : Str → Addr} {σ : L2.St} {H : Hp} {Z : ZS} : ∀ {ds : List Ag} {xs : List D} {vs : List V} {fp : FP}, agL ds = some xs → RepA K cA H Z σ ds vs fp → RepL K cA H Z xs vs fp
  | [], xs, vs, fp, e, h => by
    cases e
    exact h
  | .d x :: ds, xs, vs, fp, e, h => by
    obtain ⟨v, vs', f1, f2, ev, h1, h2, ef⟩ := h
    unfold agL at e
    cases hd : agL ds with
    | none => rw [hd] at e; cases e
    | some ys =>
      rw [hd] at e
      cases e
      exact ⟨v, vs', f1, f2, ev, h1, repA_L hd h2, ef⟩
  | .s i :: ds, xs, vs, fp, e, h => by simp [agL] at e
def dTup (g : Env → Out (List Ag)) : Env → Out D := fun ρ => match g ρ with
  | .ok ds ρ1 => (match agL ds with
    | some xs => if xs.length ≤ cap then .ok (.tup (frzL xs)) ρ1 else .st
    | none => .st)
  | .ex e ρ1 => .ex e ρ1
  | .st => .st
def dLst (g : Env → Out (List Ag)) : Env → Out D := fun ρ => match g ρ with
  | .ok ds ρ1 => (match agL ds with
    | some xs => if xs.length ≤ cap then .ok (.lst true xs) ρ1 else .st
    | none => .st)
  | .ex e ρ1 => .ex e ρ1
  | .st => .st
section
variable {X : Cx} {cA : Str → Addr} {W : WX} {g : Env → Out (List Ag)} {es : List Expr} {pos : Pos}
theorem de_tup {x1} (h : DA X cA W g es) : DE X cA W (dTup g) (.Tuple es x1 pos) := de_of (pe_tup h) fun σ H Q Z L ρ r w p => by
  refine ⟨Z, L, ρ, r, w, ?_⟩
  unfold dTup at p
  cases ha : g ρ with
  | st => rw [ha] at p; exact p
  | ex e ρ' => rw [ha] at p; exact p
  | ok ds ρ1 =>
    rw [ha] at p
    dsimp only at p
    split at p
    · rename_i xs hx
      split at p
      · rename_i hl
        intro vs H1 Z1 L1 f1 r1 w1 h1 F1
        have hL := repA_L hx h1
        have len := repL_len hL
        refine ⟨cap_le (by omega), fun q hq => ?_⟩
        have wz := w1.freeze (repL_trk xs hL)
        obtain ⟨a, b, c⟩ := new_tup (wf0 wz) (repL_zu hL) hq
        obtain ⟨r3, w3, F3⟩ := hand0 wz (relL_zu r1) c b
        exact p _ _ _ L1 [] r3 w3 a (F1.freeze.trans F3)
      · exact p.elim
    · exact p.elim
theorem de_lst (h : DA X cA W g es) : DE X cA W (dLst g) (.List es pos) := de_of (pe_lst h) fun σ H Q Z L ρ r w p => by
  refine ⟨Z, L, ρ, r, w, ?_⟩
  unfold dLst at p
  cases ha : g ρ with
  | st => rw [ha] at p; exact p
  | ex e ρ' => rw [ha] at p; exact p
  | ok ds ρ1 =>
    rw [ha] at p
    dsimp only at p
    split at p
    · rename_i xs hx
      split at p
      · rename_i hl
        intro vs H1 Z1 L1 f1 r1 w1 h1 F1
        have hL := repA_L hx h1
        have len := repL_len hL
        refine ⟨cap_le (by omega), fun q hq => ?_⟩
        have kn := keep_new (o := .lst vs) hq
        have tr : ∀ a ∈ f1 ++ L1, ∃ o, H1 a = some o := fun a m => (List.mem_append.mp m).elim (repL_trk xs hL a) (relL_trk r1 a)
        refine p (.ref q) _ Z1 L1 (q :: f1) (relL_mono (fun _ z => z) (fun a o _ e => kn a o e) r1) (wf_new w1 hq tr) ⟨q, vs, f1, rfl, repL_mono xs (fun _ z => z) (fun a o _ e => kn a o e) hL, ⟨upd_same, fun z => nomatch z⟩, rfl, fun z => nomatch z⟩ (F1.trans (fr_new hq))
      · exact p.elim
    · exact p.elim
end
end DL
namespace DL
open PySem L2
def qC (x : At) : Env → Option At := fun _ => some x
def qVar (i : Nat) : Env → Option At := fun ρ => match ρ[i]? with
  | some (some (.a x)) => some x
  | _ => none
def qOp (f : Int → Int → Int) (g h : Env → Option At) : Env → Option At := fun ρ => match g ρ, h ρ with
  | some (.int i), some (.int j) => some (.int (f i j))
  | _, _ => none
section
variable {X : Cx} {cA : Str → Addr} {W : WX} {g h : Env → Option At} {a b : Expr} {pos : Pos}
end
def gIxO (x y : D) : Option D := match y with
  | .a (.int i) => (match x with
    | .n .lst _ xs => atI xs i
    | .n .scr _ xs => atI xs i
    | .n .tup _ xs => atI xs i
    | .a (.str s) => if s.length ≤ cap then (atI s.cps.toList i).map fun c => D.str ⟨#[c]⟩ else none
    | _ => none)
  | _ => none
def gIx (x y : D) : Option D := match gIxO x y with
  | some d => if isF d = true then some d else none
  | none => none
section
variable {K : PySem.W.Frag} {cA : Str → Addr} {H : Hp} {Z : ZS}
theorem atI_rep {xs : List D} {vs : List V} {g : FP} {i : Int} {d : D} (h : RepL K cA H Z xs vs g) (e : atI xs i = some d) : ∃ v f0 f1 f2, atI vs i = some v ∧ RepD K cA H Z d v f1 ∧ g = f0 ++ f1 ++ f2 := by
  unfold atI at e ⊢
  rw [repL_len h]
  cases hj : ixN xs.length i with
  | none => rw [hj] at e; cases e
  | some j =>
    rw [hj] at e
    exact repL_get h e
theorem ix_rep {x y d : D} {v1 v2 : V} {f1 f2 : FP} {Q : VK} (h1 : RepD K cA H Z x v1 f1) (h2 : RepD K cA H Z y v2 f2) (hg : gIxO x y = some d) (q : ∀ v f0 f f3, RepD K cA H Z d v f → (f = [] ∨ ∃ p, f1 = p :: (f0 ++ f ++ f3)) → Q v H) : rIx K v1 v2 H Q := by
  unfold gIxO at hg
  split at hg
  · rename_i i
    obtain ⟨e2, _⟩ := h2
    subst e2
    split at hg
    · rename_i o xs
      obtain ⟨p, vs, g, rfl, e1, r1, ef, hz⟩ := rep_lst h1
      obtain ⟨v, g0, g1, g2, hv, hr, eg⟩ := atI_rep r1 hg
      refine .inl ⟨p, vs, i, v, rfl, rfl, SqL.of e1, hv, q v g0 g1 g2 hr ?_⟩
      cases o with
      | true => exact .inr ⟨p, by rw [ef, eg]; rfl⟩
      | false =>
        have := (hz rfl).2
        rw [this] at eg
        left
        have e3 := congrArg List.length eg
        simp at e3
        exact List.eq_nil_of_length_eq_zero (by omega)
    · rename_i o xs
      obtain ⟨p, vs, rfl, e1, r1, ef, _⟩ := rep_scr h1
      obtain ⟨v, g0, g1, g2, hv, hr, eg⟩ := atI_rep r1 hg
      refine .inl ⟨p, vs, i, v, rfl, rfl, e1, hv, q v g0 g1 g2 hr ?_⟩
      left
      have e3 := congrArg List.length eg
      simp at e3
      exact List.eq_nil_of_length_eq_zero (by omega)
    · rename_i o xs
      obtain ⟨p, vs, rfl, e1, r1, ef, _⟩ := rep_tup h1
      obtain ⟨v, g0, g1, g2, hv, hr, eg⟩ := atI_rep r1 hg
      refine .inr (.inl ⟨p, vs, i, v, rfl, rfl, e1, hv, q v g0 g1 g2 hr ?_⟩)
      left
      have e3 := congrArg List.length eg
      simp at e3
      exact List.eq_nil_of_length_eq_zero (by omega)
    · rename_i s
      split at hg
      · rename_i hs
        obtain ⟨e1, _⟩ := h1
        subst e1
        cases hc : atI s.cps.toList i with
        | none => rw [hc] at hg; cases hg
        | some c =>
          rw [hc] at hg
          cases hg
          exact .inr (.inr ⟨s, i, c, rfl, rfl, cap_le hs, hc, q _ [] [] [] ⟨rfl, rfl⟩ (.inl rfl)⟩)
      · cases hg
    · cases hg
  · cases hg
theorem vop_ix : VOp2 K cA (rIx K) gIx := by
  refine ⟨@fun d1 d2 d v1 v2 H Z f1 f2 Q h1 h2 w hg q => ?_⟩
  unfold gIx at hg
  split at hg
  · rename_i d' hd
    split at hg
    · rename_i hf
      cases hg
      refine ix_rep h1 h2 hd fun v f0 f f3 hr _ => ?_
      have e := repD_isF d hr hf
      subst e
      exact q v H Z [] hr (wf0 w) (Fr.refl.less fun _ m => nomatch m)
    · cases hg
  · cases hg
end
section
variable {X : Cx} {cA : Str → Addr} {W : WX} {fa fb : Env → Out D} {a b : Expr} {pos : Pos}
theorem de_ix (ha : DE X cA W fa a) (hb : DE X cA W fb b) (hs : PlainIx b := by exact fun _ _ => rfl) : DE X cA W (dOp2 gIx fa fb) (.Subscript a b pos) := PE.imp (pe_ix ix_seq ha hb hs) (te_op2 vop_ix)
def dIxS (i : Nat) (fb : Env → Out D) : Env → Out D := fun ρ => match fb ρ with
  | .ok k ρ1 => (match ρ1[i]? with
    | some (some x) => (match gIxO x k with
      | some d => .ok d ρ1
      | none => .st)
    | _ => .st)
  | .ex e ρ1 => .ex e ρ1
  | .st => .st
theorem slot_now {K : PySem.W.Frag} {H : Hp} {Z : ZS} {ρ ρ1 : Env} {σ : L2.St} {L : FP} {i : Nat} {v : V} {d : D} (r : RelL K cA H Z ρ1 σ L) (h : ρ1[i]? = some (some d)) (hv : σ[i]? = some (some v)) : ∃ f0 f1 f2, RepD K cA H Z d v f1 ∧ L = f0 ++ f1 ++ f2 := by
  obtain ⟨v', f0, f1, f2, hv', hr, ef, _, _⟩ := relL_at r h
  rw [hv] at hv'
  cases hv'
  exact ⟨f0, f1, f2, hr, ef⟩
def dIxV (i : Nat) (fb : Env → Out D) : Env → Out D := fun ρ => match ρ[i]? with
  | some (some _) => (match dIxS i fb ρ with
    | .ok d ρ1 => if isF d = true then .ok d ρ1 else .st
    | .ex e ρ1 => .ex e ρ1
    | .st => .st)
  | _ => .st
def dIxP (fa : Env → Out D) (g : Env → Option At) : Env → Out D := fun ρ => match fa ρ with
  | .ok x ρ1 => (match g ρ1 with
    | some k => (match gIxO x (.a k) with
      | some d => .ok d ρ1
      | none => .st)
    | none => .st)
  | .ex e ρ1 => .ex e ρ1
  | .st => .st
end
def cutD (xs : List D) (lo hi : Option Int) : List D := (xs.drop (HT.sIx xs.length 0 lo)).take (HT.sIx xs.length xs.length hi - HT.sIx xs.length 0 lo)
def gSl (x : D) (lo hi : Option Int) : Option D := match x with
  | .n .lst _ xs => if isFL xs = true then some (.lst true (cutD xs lo hi)) else none
  | .n .scr _ xs => if isFL xs = true then some (.lst true (cutD xs lo hi)) else none
  | .n .tup _ xs => some (.tup (cutD xs lo hi))
  | .a (.str s) => if s.length ≤ cap then some (.str (cutS s lo hi)) else none
  | _ => none
section
variable {K : PySem.W.Frag} {cA : Str → Addr} {H : Hp} {Z : ZS}
theorem repL_drop {xs : List D} {vs : List V} (h : RepL K cA H Z xs vs []) : ∀ n : Nat, RepL K cA H Z (xs.drop n) (vs.drop n) [] := by
  induction xs generalizing vs with
  | nil => intro n; rw [h.1]; simp only [List.drop_nil]; exact ⟨rfl, rfl⟩
  | cons x xs ih =>
    obtain ⟨v, vs', f1, f2, ev, h1, h2, ef⟩ := h
    subst ev
    have e := List.append_eq_nil_iff.mp ef.symm
    rw [e.1] at h1
    rw [e.2] at h2
    intro n
    cases n with
    | zero => exact ⟨v, vs', [], [], rfl, h1, h2, rfl⟩
    | succ n => exact ih h2 n
theorem repL_take {xs : List D} {vs : List V} (h : RepL K cA H Z xs vs []) : ∀ n : Nat, RepL K cA H Z (xs.take n) (vs.take n) [] := by
  induction xs generalizing vs with
  | nil => intro n; rw [h.1]; simp only [List.take_nil]; exact ⟨rfl, rfl⟩
  | cons x xs ih =>
    obtain ⟨v, vs', f1, f2, ev, h1, h2, ef⟩ := h
    subst ev
    have e := List.append_eq_nil_iff.mp ef.symm
    rw [e.1] at h1
    rw [e.2] at h2
    intro n
    cases n with
    | zero => exact ⟨rfl, rfl⟩
    | succ n => exact ⟨v, vs'.take n, [], [], rfl, h1, ih h2 n, rfl⟩
theorem repL_cut {xs : List D} {vs : List V} (h : RepL K cA H Z xs vs []) (lo hi : Option Int) : RepL K cA H Z (cutD xs lo hi) (cutV vs lo hi) [] := by
  unfold cutD cutV
  rw [repL_len h]
  exact repL_take (repL_drop h _) _
abbrev rSlDD (K : PySem.W.Frag) : V → Option Int → Option Int → Hp → VK → Prop := fun x lo hi H Q => rSlL K x lo hi H Q ∨ rSlA K x lo hi H Q ∨ rSlS x lo hi H Q
theorem sl_rep {x d : D} {v1 : V} {f1 : FP} {lo hi : Option Int} {Q : VK} (h1 : RepD K cA H Z x v1 f1) (w : Wf H Z []) (hg : gSl x lo hi = some d) (q : ∀ v H' Z' fp, RepD K cA H' Z' d v fp → Wf H' Z' fp → Fr H Z [] H' Z' fp → Q v H') : rSlDD K v1 lo hi H Q := by
  unfold gSl at hg
  split at hg
  · rename_i o xs
    split at hg
    · rename_i hf
      cases hg
      obtain ⟨p, vs, g, rfl, e1, r1, _⟩ := rep_lst h1
      refine .inl ⟨p, vs, rfl, SqL.of e1, fun p0 hp => ?_⟩
      obtain ⟨a, b, c⟩ := new_lst w (repL_cut (repL_fl r1 hf) lo hi) hp
      exact q _ _ _ _ a b c
    · cases hg
  · rename_i o xs
    split at hg
    · rename_i hf
      cases hg
      obtain ⟨p, vs, rfl, e1, r1, _⟩ := rep_scr h1
      refine .inl ⟨p, vs, rfl, e1, fun p0 hp => ?_⟩
      obtain ⟨a, b, c⟩ := new_lst w (repL_cut r1 lo hi) hp
      exact q _ _ _ _ a b c
    · cases hg
  · rename_i o xs
    cases hg
    obtain ⟨p, vs, rfl, e1, r1, _, _, c1⟩ := rep_tup h1
    have rc := repL_cut r1 lo hi
    refine .inr (.inl ⟨p, vs, rfl, e1, fun e => ?_, fun _ p0 hp => ?_⟩)
    · have hv : cutV vs lo hi = vs := by
        unfold cutV
        rw [e.1, e.2, List.drop_zero, Nat.sub_zero, List.take_length]
      rw [hv] at rc
      exact q _ H Z [] ⟨p, vs, [], rfl, rc, ⟨rfl, c1⟩, rfl, fun _ => rfl⟩ w Fr.refl
    · obtain ⟨a, b, c⟩ := new_tup w rc hp
      exact q _ _ _ _ a b c
  · rename_i s
    split at hg
    · rename_i hs
      cases hg
      obtain ⟨e1, _⟩ := h1
      subst e1
      exact .inr (.inr ⟨s, rfl, cap_le hs, q _ H Z [] ⟨rfl, rfl⟩ w Fr.refl⟩)
    · cases hg
  · cases hg
end
def dPart : Option (Env → Out D) → Env → Out (Option Int)
  | none, ρ => .ok none ρ
  | some f, ρ => match f ρ with
    | .ok (.a (.int i)) ρ1 => .ok (some i) ρ1
    | .ok _ _ => .st
    | .ex e ρ1 => .ex e ρ1
    | .st => .st
def dSl (fa : Env → Out D) (lo hi : Option (Env → Out D)) : Env → Out D := fun ρ => match fa ρ with
  | .ok x ρ1 => (match dPart lo ρ1 with
    | .ok l ρ2 => (match dPart hi ρ2 with
      | .ok u ρ3 => (match gSl x l u with
        | some d => .ok d ρ3
        | none => .st)
      | .ex e ρ3 => .ex e ρ3
      | .st => .st)
    | .ex e ρ2 => .ex e ρ2
    | .st => .st)
  | .ex e ρ1 => .ex e ρ1
  | .st => .st
section
variable {X : Cx} {cA : Str → Addr} {W : WX} {fa fb : Env → Out D} {a b : Expr} {pos : Pos}
def PostO (K : PySem.W.Frag) (cA : Str → Addr) (W : WX) (σ : L2.St) (H : Hp) (Z : ZS) (L : FP) (Q : Option Int → Hp → Prop) : Out (Option Int) → Prop
  | .ok d ρ' => ∀ H' Z' L', RelL K cA H' Z' ρ' σ L' → Wf H' Z' L' → Fr H Z L H' Z' L' → Q d H'
  | .ex e ρ' => ∀ cls d H' Z' L', RelL K cA H' Z' ρ' σ L' → Wf H' Z' L' → ExR cA H' Z' e cls d → Fr H Z L H' Z' L' → W cls d σ H'
  | .st => False
def TOof (K : PySem.W.Frag) (cA : Str → Addr) (W : WX) (f : Env → Out (Option Int)) : TO := fun σ H Q => ∃ Z L ρ, RelL K cA H Z ρ σ L ∧ Wf H Z L ∧ PostO K cA W σ H Z L Q (f ρ)
def DO (X : Cx) (cA : Str → Addr) (W : WX) (f : Option (Env → Out D)) (e : Option Expr) : Prop := ∃ t, PO X e t ∧ ∀ σ H Q, TOof X.K cA W (dPart f) σ H Q → t σ H Q
theorem do_none : DO X cA W none none := ⟨_, po_none, fun σ H Q ⟨Z, L, ρ, r, w, p⟩ => p H Z L r w Fr.refl⟩
theorem do_some (h : DE X cA W fa a) : DO X cA W (some fa) (some a) := ⟨_, po_some h, fun σ H Q ⟨Z, L, ρ, r, w, p⟩ => by
  refine ⟨Z, L, ρ, r, w, ?_⟩
  unfold dPart at p
  dsimp only at p
  cases ha : fa ρ with
  | st => rw [ha] at p; exact p.elim
  | ex e ρ' => rw [ha] at p; exact p
  | ok x ρ1 =>
    rw [ha] at p
    intro v H1 Z1 L1 f1 r1 w1 h1 F1
    cases x with
    | n k o xs => exact p.elim
    | a x =>
      cases x with
      | int i =>
        obtain ⟨e1, e2⟩ := h1
        subst e1 e2
        exact ⟨i, rfl, p H1 Z1 L1 r1 w1 F1⟩
      | non => exact p.elim
      | bl b => exact p.elim
      | str s => exact p.elim⟩
theorem de_slice {lo hi : Option (Env → Out D)} {elo ehi : Option Expr} {p2 : Pos} (ha : DE X cA W fa a) (hl : DO X cA W lo elo) (hu : DO X cA W hi ehi) : DE X cA W (dSl fa lo hi) (.Subscript a (.Slice elo ehi none p2) pos) := by
  obtain ⟨tl, pl, il⟩ := hl
  obtain ⟨th, pu, iu⟩ := hu
  refine de_of (pe_slice (sl_list.or (sl_tupA.or sl_str)) ha pl pu) fun σ H Q Z L ρ r w p => ?_
  refine ⟨Z, L, ρ, r, w, ?_⟩
  unfold dSl at p
  cases ha' : fa ρ with
  | st => rw [ha'] at p; exact p
  | ex e ρ' => rw [ha'] at p; exact p
  | ok x ρ1 =>
    rw [ha'] at p
    intro v H1 Z1 L1 f1 r1 w1 h1 F1
    dsimp only at p
    refine il σ H1 _ ⟨Z1, L1, ρ1, r1, w1.less (List.sublist_append_right _ _), ?_⟩
    cases hl' : dPart lo ρ1 with
    | st => rw [hl'] at p; exact p
    | ex e ρ' => rw [hl'] at p; exact exw p (F1.less fun x m => by simp [m])
    | ok l ρ2 =>
      rw [hl'] at p
      intro H2 Z2 L2 r2 w2 F2
      dsimp only at p
      have w12 := w1.wait (repD_trk x h1) F2 w2
      have F12 := Fr.wait w1 F1 F2
      have h2 := repD_wait w1 h1 F2
      refine iu σ H2 _ ⟨Z2, L2, ρ2, r2, w2, ?_⟩
      cases hu' : dPart hi ρ2 with
      | st => rw [hu'] at p; exact p
      | ex e ρ' => rw [hu'] at p; exact exw p (F12.less fun x m => by simp [m])
      | ok u ρ3 =>
        rw [hu'] at p
        intro H3 Z3 L3 r3 w3 F3
        dsimp only at p
        have w13 := w12.wait (repD_trk x h2) F3 w3
        have F13 := Fr.wait w12 F12 F3
        have h3 := repD_wait w12 h2 F3
        cases hg : gSl x l u with
        | none => rw [hg] at p; exact p.elim
        | some d =>
          rw [hg] at p
          refine sl_rep h3 (wf0 w3) hg fun v H4 Z4 fp h4 w4 F4 => ?_
          obtain ⟨r5, w5, F5⟩ := hand0 w3 r3 F4 w4
          exact p v H4 Z4 L3 fp r5 w5 h4 ((F13.less fun x m => by simp [m]).trans F5)
end
end DL
namespace DL
open PySem L2
def RepIo (K : PySem.W.Frag) (cA : Str → Addr) (H : Hp) (Z : ZS) : Option Nat → Option D → List V → FP → Prop
  | some k, some d, vs, g => ∃ v, vs[k]? = some v ∧ RepD K cA H Z d v g
  | _, _, _, g => g = []
def PostF (K : PySem.W.Frag) (cA : Str → Addr) (kio : Option Nat) (vs : List V) (H : Hp) (Z : ZS) (L : FP) (Q : VK) (E : XK) : FR → Prop
  | .rt d io => ∀ v H' Z' fp g, RepIo K cA H' Z' kio io vs g → RepD K cA H' Z' d v fp → Wf H' Z' (fp ++ g) → Fr H Z L H' Z' (fp ++ g) → Q v H'
  | .ex e io => ∀ cls d H' Z' g, RepIo K cA H' Z' kio io vs g → Wf H' Z' g → ExR cA H' Z' e cls d → Fr H Z L H' Z' g → E cls d H'
  | .st => False
def spF (K : PySem.W.Frag) (cA : Str → Addr) (n : Nat) (kio : Option Nat) (F : List D → FR) : Sp := fun vs H Q E => vs.length = n ∧ ∃ ds Z L, RepL K cA H Z ds vs L ∧ Wf H Z L ∧ PostF K cA kio vs H Z L Q E (F ds)
def ioOf (kio : Option Nat) (ρ : Env) : Option D := match kio with
  | some k => (match ρ[k]? with
    | some (some d) => some d
    | _ => none)
  | none => none
def fnD (n : Nat) (kio : Option Nat) (body : Env → Fl) : List D → FR := fun ds => match body (ds.map some ++ List.replicate (n - ds.length) none) with
  | .nx ρ => .rt .non (ioOf kio ρ)
  | .rt d ρ => .rt d (ioOf kio ρ)
  | .ex e ρ => .ex e (ioOf kio ρ)
  | _ => .st
section
variable {K : PySem.W.Frag} {cA : Str → Addr}
theorem relL_nones {H : Hp} {Z : ZS} : ∀ n : Nat, RelL K cA H Z (List.replicate n none) (List.replicate n none) []
  | 0 => ⟨rfl, rfl⟩
  | n + 1 => ⟨none, _, rfl, relL_nones n⟩
theorem relL_start {H : Hp} {Z : ZS} {n : Nat} : ∀ {ds : List D} {vs : List V} {L : FP}, RepL K cA H Z ds vs L → RelL K cA H Z (ds.map some ++ List.replicate n none) (vs.map some ++ List.replicate n none) L
  | [], vs, L, h => by
    rw [h.1, h.2]
    exact relL_nones n
  | d :: ds, vs, L, h => by
    obtain ⟨v, vs', f1, f2, ev, h1, h2, ef⟩ := h
    subst ev
    exact ⟨v, _, f1, f2, rfl, h1, relL_start h2, ef⟩
theorem io_end {H : Hp} {Z : ZS} {kio : Option Nat} {ρ : Env} {σ0 σ : L2.St} {L : FP} {vs : List V} {n : Nat} (r : RelL K cA H Z ρ σ L) (pn : Pin kio (vs.map some ++ List.replicate n none) σ) : ∃ g, g.Sublist L ∧ RepIo K cA H Z kio (ioOf kio ρ) vs g := by
  cases kio with
  | none => exact ⟨[], List.nil_sublist _, rfl⟩
  | some k =>
    unfold ioOf
    dsimp only
    cases hk : ρ[k]? with
    | none => exact ⟨[], List.nil_sublist _, rfl⟩
    | some o =>
      cases o with
      | none => exact ⟨[], List.nil_sublist _, rfl⟩
      | some d =>
        obtain ⟨v, f0, f1, f2, hv, hr, ef, _, _⟩ := relL_at r hk
        have hp := pn k rfl
        rw [hv] at hp
        refine ⟨f1, ?_, v, ?_, hr⟩
        · rw [ef]
          exact (List.sublist_append_right f0 f1).trans (List.sublist_append_left _ _)
        · by_cases hl : k < vs.length
          · rw [List.getElem?_append_left (by simpa using hl), List.getElem?_map] at hp
            cases hq : vs[k]? with
            | none => rw [hq] at hp; cases hp
            | some u => rw [hq] at hp; cases hp; rfl
          · rw [List.getElem?_append_right (by simpa using hl), List.getElem?_replicate] at hp
            split at hp <;> cases hp
theorem wf_sub2 {H : Hp} {Z : ZS} {fp L g : FP} (w : Wf H Z (fp ++ L)) (h : g.Sublist L) : Wf H Z (fp ++ g) := w.less ((List.Sublist.refl fp).append h)
theorem fr_sub2 {H H' : Hp} {Z Z' : ZS} {L0 fp L g : FP} (f : Fr H Z L0 H' Z' (fp ++ L)) (h : g.Sublist L) : Fr H Z L0 H' Z' (fp ++ g) := f.less fun x m => by
  rcases List.mem_append.mp m with m | m
  · simp [m]
  · simp [h.subset m]
end
section
variable {P : Program} {w : World} {K : PySem.W.Frag} {cA : Str → Addr} {mg : Str → Option Value} {base : Heap}
end
def dCall (n : Nat) (F : List D → FR) (g : Env → Out (List Ag)) : Env → Out D := fun ρ => match g ρ with
  | .ok ds ρ1 => (match agL ds with
    | some xs => if xs.length = n then (match F (frzL xs) with
      | .rt d _ => .ok d ρ1
      | .ex e _ => .ex e ρ1
      | .st => .st) else .st
    | none => .st)
  | .ex e ρ1 => .ex e ρ1
  | .st => .st
def agL1 : List Ag → Option (List D × Nat × List D)
  | [] => none
  | .d x :: xs => (agL1 xs).map fun p => (x :: p.1, p.2)
  | .s i :: xs => (agL xs).map fun p => ([], i, p)
def dCallL (n : Nat) (kio : Option Nat) (F : List D → FR) (g : Env → Out (List Ag)) : Env → Out D := fun ρ => match g ρ with
  | .ok ds ρ1 => (match agL1 ds with
    | some (xs, i, ys) => (match ρ1[i]? with
      | some (some d0) => if kio = some xs.length ∧ xs.length + (ys.length + 1) = n then (match F (frzL xs ++ (d0 :: frzL ys)) with
        | .rt d (some d1) => .ok d (ρ1.set i (some d1))
        | .ex e (some d1) => .ex e (ρ1.set i (some d1))
        | _ => .st) else .st
      | _ => .st)
    | none => .st)
  | .ex e ρ1 => .ex e ρ1
  | .st => .st
def dCall0 (F : List D → FR) : Env → Out D := fun ρ => match F [] with
  | .rt d _ => .ok d ρ
  | .ex e _ => .ex e ρ
  | .st => .st
section
variable {X : Cx} {cA : Str → Addr} {W : WX} {g : Env → Out (List Ag)}
theorem call_in {K : PySem.W.Frag} {n : Nat} {kio : Option Nat} {F : List D → FR} {σ : L2.St} {H H1 : Hp} {Z Z1 : ZS} {L L1 f1 : FP} {ρ1 : Env} {xs : List D} {vs : List V} {Q : VK} (hn : xs.length = n)
    (r1 : RelL K cA H1 Z1 ρ1 σ L1) (w1 : Wf H1 Z1 (f1 ++ L1)) (hL : RepL K cA H1 Z1 xs vs f1) (F1 : Fr H Z L H1 Z1 (f1 ++ L1))
    (p : PostE K cA W σ H Z L Q (match F (frzL xs) with | .rt d _ => .ok d ρ1 | .ex e _ => .ex e ρ1 | .st => .st)) : spF K cA n kio F vs H1 Q (WE W σ) := by
  have wz := w1.freeze (repL_trk xs hL)
  have hf := repL_zu hL
  refine ⟨by rw [repL_len hL]; exact hn, frzL xs, ZU Z1 f1, [], hf, wf0 wz, ?_⟩
  have F1z := F1.freeze
  cases hF : F (frzL xs) with
  | st => rw [hF] at p; exact p
  | rt d io =>
    rw [hF] at p
    intro v H2 Z2 fp g' ri h2 w2 F2
    have F2' : Fr H1 (ZU Z1 f1) [] H2 Z2 fp := F2.less fun x m => by simp [m]
    obtain ⟨r3, w3, F3⟩ := hand0 wz (relL_zu r1) F2' (w2.less (List.sublist_append_left _ _))
    exact p v H2 Z2 L1 fp r3 w3 h2 (F1z.trans F3)
  | ex e io =>
    rw [hF] at p
    intro cls d H2 Z2 g' ri w2 x2 F2
    have F2' : Fr H1 (ZU Z1 f1) [] H2 Z2 [] := F2.less fun x m => nomatch m
    obtain ⟨r3, w3, F3⟩ := hand0 wz (relL_zu r1) F2' (wf0 w2)
    exact p cls d H2 Z2 L1 r3 w3 x2 (F1z.trans F3)
theorem te_call {K : PySem.W.Frag} {n : Nat} {kio : Option Nat} {F : List D → FR} : ∀ σ H Q, TEof K cA W (dCall n F g) σ H Q → tCallS (spF K cA n kio F) (WE W) (TAof K cA W g) σ H Q := by
  rintro σ H Q ⟨Z, L, ρ, r, w, p⟩
  refine ⟨Z, L, ρ, r, w, ?_⟩
  unfold dCall at p
  cases ha : g ρ with
  | st => rw [ha] at p; exact p
  | ex e ρ' => rw [ha] at p; exact p
  | ok ds ρ1 =>
    rw [ha] at p
    intro vs H1 Z1 L1 f1 r1 w1 h1 F1
    dsimp only at p
    split at p
    · rename_i xs hx
      split at p
      · rename_i hn
        exact call_in hn r1 w1 (repA_L hx h1) F1 p
      · exact p.elim
    · exact p.elim
theorem te_callL {K : PySem.W.Frag} {n : Nat} {kio : Option Nat} {F : List D → FR} : ∀ σ H Q, TEof K cA W (dCallL n kio F g) σ H Q → tCallS (spF K cA n kio F) (WE W) (TAof K cA W g) σ H Q := by
  rintro σ H Q ⟨Z, L, ρ, r, w, p⟩
  refine ⟨Z, L, ρ, r, w, ?_⟩
  unfold dCallL at p
  cases ha : g ρ with
  | st => rw [ha] at p; exact p
  | ex e ρ' => rw [ha] at p; exact p
  | ok ds ρ1 =>
    rw [ha] at p
    intro vs H1 Z1 L1 f1 r1 w1 h1 F1
    dsimp only at p
    split at p
    · rename_i xs i ys hx
      split at p
      · rename_i d0 hd0
        split at p
        · rename_i hk
          obtain ⟨hk, hn⟩ := hk
          -- the arguments apart
          have key : ∀ {ds : List Ag} {xs ys : List D} {vs : List V} {fp : FP}, agL1 ds = some (xs, i, ys) → RepA K cA H1 Z1 σ ds vs fp → ∃ us v ws g1 g2, vs = us ++ v :: ws ∧ RepL K cA H1 Z1 xs us g1 ∧ RepL K cA H1 Z1 ys ws g2 ∧ σ[i]? = some (some v) ∧ fp = g1 ++ g2 := by
            intro ds
            induction ds with
            | nil => intro xs ys vs fp e; simp [agL1] at e
            | cons a ds ih =>
              intro xs ys vs fp e h
              cases a with
              | d x =>
                obtain ⟨v, vs', f1, f2, ev, h1, h2, ef⟩ := h
                unfold agL1 at e
                cases hd : agL1 ds with
                | none => rw [hd] at e; cases e
                | some q =>
                  obtain ⟨q1, q2, q3⟩ := q
                  rw [hd] at e
                  cases e
                  obtain ⟨us, v', ws, g1, g2, e1, r1, r2, hv, e2⟩ := ih hd h2
                  exact ⟨v :: us, v', ws, f1 ++ g1, g2, by rw [ev, e1]; rfl, ⟨v, us, f1, g1, rfl, h1, r1, rfl⟩, r2, hv, by rw [ef, e2]; simp⟩
              | s j =>
                obtain ⟨v, vs', ev, hv, h2⟩ := h
                unfold agL1 at e
                cases hd : agL ds with
                | none => rw [hd] at e; cases e
                | some q =>
                  rw [hd] at e
                  cases e
                  exact ⟨[], v, vs', [], fp, by rw [ev]; rfl, ⟨rfl, rfl⟩, repA_L hd h2, hv, rfl⟩
          obtain ⟨us, v, ws, g1, g2, ev, hx1, hx2, hv, ef⟩ := key hx h1
          subst ev ef
          have tr : ∀ a ∈ g1 ++ g2, ∃ o, H1 a = some o := fun a m => (List.mem_append.mp m).elim (repL_trk _ hx1 a) (repL_trk _ hx2 a)
          have wz := w1.freeze tr
          have r1z : RelL K cA H1 (ZU Z1 (g1 ++ g2)) ρ1 σ L1 := relL_zu r1
          obtain ⟨v', f0, fd, f2, hv', hr, eL, put, cut⟩ := relL_at r1z hd0
          rw [hv] at hv'
          cases hv'
          have m1 : RepL K cA H1 (ZU Z1 (g1 ++ g2)) (frzL xs) us [] := repL_frz xs zu_sub (fun a m => .inr (by simp [m])) hx1
          have m2 : RepL K cA H1 (ZU Z1 (g1 ++ g2)) (frzL ys) ws [] := repL_frz ys zu_sub (fun a m => .inr (by simp [m])) hx2
          have hall : RepL K cA H1 (ZU Z1 (g1 ++ g2)) (frzL xs ++ (d0 :: frzL ys)) (us ++ v :: ws) fd := by
            have := repL_append m1 (ys := d0 :: frzL ys) (ws := v :: ws) (g := fd) ⟨v, ws, fd, [], rfl, hr, m2, by simp⟩
            simpa using this
          have lu : us.length = xs.length := repL_len hx1
          have lw : ws.length = ys.length := repL_len hx2
          -- the lent footprint is handed over, the rest waits
          have wzp : Wf H1 (ZU Z1 (g1 ++ g2)) ((f0 ++ f2) ++ fd) := by
            rw [eL] at wz
            refine wz.perm ?_
            rw [List.append_assoc, List.append_assoc]
            exact List.Perm.append_left _ List.perm_append_comm
          have cut1 := cut (H' := H1) (Z' := ZU Z1 (g1 ++ g2)) (fun _ z => z) (fun _ _ _ e => e)
          refine ⟨by simp [lu, lw]; omega, _, _, fd, hall, wzp.less (List.sublist_append_right _ _), ?_⟩
          have F1z : Fr H Z L H1 (ZU Z1 (g1 ++ g2)) L1 := F1.freeze
          have subL : ∀ x ∈ (f0 ++ f2) ++ fd, x ∈ L1 := fun x m => by rw [eL]; simp at m ⊢; rcases m with m | m | m <;> simp [m]
          have back : ∀ {H2 Z2 d1 M fp0} {g' : FP}, RepIo K cA H2 Z2 kio (some d1) (us ++ v :: ws) g' → Wf H2 Z2 (fp0 ++ g') → Fr H1 (ZU Z1 (g1 ++ g2)) fd H2 Z2 (fp0 ++ g') → M = f0 ++ g' ++ f2 →
              RelL K cA H2 Z2 (ρ1.set i (some d1)) σ M ∧ Wf H2 Z2 (fp0 ++ M) ∧ Fr H Z L H2 Z2 (fp0 ++ M) := by
            intro H2 Z2 d1 M fp0 g' ri w2 F2 eM
            subst eM hk
            obtain ⟨v2, hv2, hd1⟩ := ri
            rw [List.getElem?_append_right (by omega), lu, Nat.sub_self] at hv2
            cases hv2
            have w3 := wzp.wait (relL_trk cut1) F2 w2
            have F3 := ((F1z.less subL).wait wzp F2)
            have nd := List.nodup_append.mp wzp.nd
            have hset : σ.set i (some v) = σ := by
              apply List.ext_getElem?
              intro j
              by_cases hj : i = j
              · subst hj
                rw [hv]
                have hl : i < σ.length := (List.getElem?_eq_some_iff.mp hv).1
                rw [List.getElem?_set_self hl]
              · rw [List.getElem?_set_ne hj]
            have pr := put (H' := H2) (Z' := Z2) (d' := d1) (v' := v) (g := g') F2.zm (fun a o m e => F2.keep a o e fun q => by
              rcases m with m | m | m
              · exact (wzp.dj a (by simp [q])) m
              · exact nd.2.2 a (by simp [m]) a q rfl
              · exact nd.2.2 a (by simp [m]) a q rfl) hd1
            rw [hset] at pr
            have pm : ((f0 ++ f2) ++ (fp0 ++ g')).Perm (fp0 ++ (f0 ++ g' ++ f2)) := by
              refine (List.perm_append_comm_assoc (f0 ++ f2) fp0 g').trans (List.Perm.append_left fp0 ?_)
              rw [List.append_assoc, List.append_assoc]
              exact List.Perm.append_left f0 List.perm_append_comm
            exact ⟨pr, w3.perm pm, F3.less fun x m => pm.mem_iff.mpr m⟩
          cases hF : F (frzL xs ++ (d0 :: frzL ys)) with
          | st => rw [hF] at p; exact p.elim
          | rt d io =>
            rw [hF] at p
            cases io with
            | none => exact p.elim
            | some d1 =>
              intro v2 H2 Z2 fp g' ri h2 w2 F2
              obtain ⟨b1, b2, b3⟩ := back ri w2 F2 rfl
              exact p v2 H2 Z2 _ fp b1 b2 h2 b3
          | ex e io =>
            rw [hF] at p
            cases io with
            | none => exact p.elim
            | some d1 =>
              intro cls d H2 Z2 g' ri w2 x2 F2
              obtain ⟨b1, b2, b3⟩ := back (fp0 := []) ri w2 F2 rfl
              exact p cls d H2 Z2 _ b1 b2 x2 b3
        · exact p.elim
      · exact p.elim
    · exact p.elim
section
variable {k n : Nat} {kio : Option Nat} {f : Addr} {fd : FuncData} {ps : List Str} {F : List D → FR} {x : Str} {p pos : Pos} {e : Expr} {es : List Expr}
theorem de_call (Fo : FnOk X.prog X.w X.K X.mg X.base (L2.CX X.prog X.w) k f fd ps (spF X.K cA n kio F)) (hr : Room k X.A)
    (hg : Gl X x) (hm : X.mg x = some (.ref f)) (hk : PySem.W.keepIn X.K (.ref f) = true) (hb : Binds X.K fd ps []) (tk : Takes X W) (ha : DA X cA W g (e :: es))
    (hdb : (x == ("__debug__" : Str)) = false := by kernel_rfl) (he : starEach (e :: es) X.env = (false, eval e X.env) :: starEach es X.env := by kernel_rfl) (hpl : (backTo pos (starEach es X.env)).any (·.1) = false := by kernel_rfl) :
    DE X cA W (dCall n F g) (.Call (.Name x p) (e :: es) [] pos) := PE.imp (pe_callS Fo hr hg hm hk hb (passAt tk) ha hdb he hpl) te_call
theorem de_callL (Fo : FnOk X.prog X.w X.K X.mg X.base (L2.CX X.prog X.w) k f fd ps (spF X.K cA n kio F)) (hr : Room k X.A)
    (hg : Gl X x) (hm : X.mg x = some (.ref f)) (hk : PySem.W.keepIn X.K (.ref f) = true) (hb : Binds X.K fd ps []) (tk : Takes X W) (ha : DA X cA W g (e :: es))
    (hdb : (x == ("__debug__" : Str)) = false := by kernel_rfl) (he : starEach (e :: es) X.env = (false, eval e X.env) :: starEach es X.env := by kernel_rfl) (hpl : (backTo pos (starEach es X.env)).any (·.1) = false := by kernel_rfl) :
    DE X cA W (dCallL n kio F g) (.Call (.Name x p) (e :: es) [] pos) := PE.imp (pe_callS Fo hr hg hm hk hb (passAt tk) ha hdb he hpl) te_callL
end
end
end DL
namespace DL
open PySem L2
theorem Pin.refl {k : Option Nat} {σ : L2.St} : Pin k σ σ := fun _ _ => rfl
theorem Pin.trans {k : Option Nat} {σ σ1 σ2 : L2.St} (a : Pin k σ σ1) (b : Pin k σ1 σ2) : Pin k σ σ2 := fun i e => (b i e).trans (a i e)
theorem Pin.set {k : Option Nat} {σ : L2.St} {i : Nat} {v : Option V} (h : k ≠ some i) : Pin k σ (σ.set i v) := fun j e => by
  have : i ≠ j := fun z => h (by rw [z]; exact e)
  rw [List.getElem?_set_ne this]
section
variable {K : PySem.W.Frag} {cA : Str → Addr} {W : WX} {k : Option Nat}
theorem postS_tr {σ σ1 : L2.St} {H H1 : Hp} {Z Z1 : ZS} {L L1 : FP} {T : Ends} {o : Fl} (F : Fr H Z L H1 Z1 L1) (pn : Pin k σ σ1) (p : PostS K cA W k σ H Z L T o) : PostS K cA W k σ1 H1 Z1 L1 T o := by
  cases o with
  | st => exact p
  | nx ρ' => exact fun σ' H' Z' L' r w f q => p σ' H' Z' L' r w (F.trans f) (pn.trans q)
  | bk ρ' => exact fun σ' H' Z' L' r w f q => p σ' H' Z' L' r w (F.trans f) (pn.trans q)
  | ct ρ' => exact fun σ' H' Z' L' r w f q => p σ' H' Z' L' r w (F.trans f) (pn.trans q)
  | rt d ρ' => exact fun v σ' H' Z' L' fp r w h f q => p v σ' H' Z' L' fp r w h (F.trans f) (pn.trans q)
  | ex e ρ' => exact fun cls d σ' H' Z' L' r w x f q => p cls d σ' H' Z' L' r w x (F.trans f) (pn.trans q)
theorem post_es {σ : L2.St} {H : Hp} {Z : ZS} {L : FP} {T : Ends} {e : Exn} {ρ' : Env} (p : PostS K cA W k σ H Z L T (.ex e ρ')) :
    ∀ cls d H' Z' L', RelL K cA H' Z' ρ' σ L' → Wf H' Z' L' → ExR cA H' Z' e cls d → Fr H Z L H' Z' L' → W cls d σ H' := fun cls d H' Z' L' r w x f => p cls d σ H' Z' L' r w x f Pin.refl
end
def dNext : Env → Fl := fun ρ => .nx ρ
@[irreducible] def dSeq (f g : Env → Fl) : Env → Fl := fun ρ => match f ρ with
  | .nx ρ1 => g ρ1
  | o => o
def dBreak : Env → Fl := fun ρ => .bk ρ
def dCont : Env → Fl := fun ρ => .ct ρ
section
variable {X : Cx} {cA : Str → Addr} {W : WX} {k : Option Nat} {f g : Env → Fl} {st : Stmt} {rest : List Stmt} {pos : Pos}
theorem dss_nil : DSs X cA W k dNext [] := dss_of pss_nil fun D σ H Z L ρ r w p => p σ H Z L r w Fr.refl Pin.refl
theorem dss_one (h : DS X cA W k f st) : DSs X cA W k f [st] := pss_one h
theorem dss_cons (h : DS X cA W k f st) (h2 : DSs X cA W k g rest) : DSs X cA W k (dSeq f g) (st :: rest) := dss_of (pss_cons h h2) fun D σ H Z L ρ r w p => by
  refine ⟨Z, L, ρ, r, w, ?_⟩
  unfold dSeq at p
  cases hf : f ρ with
  | nx ρ1 =>
    rw [hf] at p
    exact fun σ1 H1 Z1 L1 r1 w1 F1 q1 => ⟨Z1, L1, ρ1, r1, w1, postS_tr F1 q1 p⟩
  | st => rw [hf] at p; exact p
  | bk ρ1 => rw [hf] at p; exact p
  | ct ρ1 => rw [hf] at p; exact p
  | rt d ρ1 => rw [hf] at p; exact p
  | ex e ρ1 => rw [hf] at p; exact p
end
def dBind (f : Env → Out D) (h : D → Env → Fl) : Env → Fl := fun ρ => match f ρ with
  | .ok d ρ1 => h d ρ1
  | .ex e ρ1 => .ex e ρ1
  | .st => .st
section
variable {X : Cx} {cA : Str → Addr} {W : WX} {k : Option Nat} {f : Env → Out D} {e : Expr} {pos : Pos} {te : TE}
theorem bind_te {K : PySem.W.Frag} {σ : L2.St} {H : Hp} {Z : ZS} {L : FP} {ρ : Env} {T : Ends} {h : D → Env → Fl} {Q : VK} (r : RelL K cA H Z ρ σ L) (w : Wf H Z L) (p : PostS K cA W k σ H Z L T (dBind f h ρ))
    (n : ∀ d ρ1 v H1 Z1 L1 fp, f ρ = .ok d ρ1 → RelL K cA H1 Z1 ρ1 σ L1 → Wf H1 Z1 (fp ++ L1) → RepD K cA H1 Z1 d v fp → Fr H Z L H1 Z1 (fp ++ L1) → PostS K cA W k σ H Z L T (h d ρ1) → Q v H1) : TEof K cA W f σ H Q := by
  refine ⟨Z, L, ρ, r, w, ?_⟩
  unfold dBind at p
  cases hf : f ρ with
  | st => rw [hf] at p; exact p
  | ex e ρ1 => rw [hf] at p; exact post_es p
  | ok d ρ1 =>
    rw [hf] at p
    exact fun v H1 Z1 L1 fp r1 w1 h1 F1 => n d ρ1 v H1 Z1 L1 fp hf r1 w1 h1 F1 p
theorem ds_ret (he : DE X cA W f e) : DS X cA W k (dBind f fun d ρ => .rt d ρ) (.Return (some e) pos) :=
  ds_of (ps_ret he) fun D σ H Z L ρ r w p => bind_te r w p fun d ρ1 v H1 Z1 L1 fp hd r1 w1 h1 F1 p => p v σ H1 Z1 L1 fp r1 w1 h1 F1 Pin.refl
def dRetMv (i : Nat) : Env → Fl := fun ρ => match ρ[i]? with
  | some (some d) => .rt d (ρ.set i none)
  | _ => .st
theorem ds_retMv {i : Nat} (he : PE X e (tVar i)) : DS X cA W k (dRetMv i) (.Return (some e) pos) := ds_of (ps_ret he) fun D σ H Z L ρ r w p => by
  unfold dRetMv at p
  split at p
  · rename_i d hd
    obtain ⟨v, f0, f1, f2, hv, hr, ef, _, cut⟩ := relL_at r hd
    have pm : L.Perm (f1 ++ (f0 ++ f2)) := by
      rw [ef, List.append_assoc]
      exact (List.perm_append_comm_assoc f0 f1 f2)
    exact ⟨v, hv, p v σ H Z (f0 ++ f2) f1 (cut (fun _ z => z) (fun _ _ _ e => e)) (w.perm pm) hr (Fr.refl.less fun x m => pm.mem_iff.mpr m) Pin.refl⟩
  · exact p.elim
def dIf (t : Env → Out Bool) (f g : Env → Fl) : Env → Fl := fun ρ => match t ρ with
  | .ok true ρ1 => f ρ1
  | .ok false ρ1 => g ρ1
  | .ex e ρ1 => .ex e ρ1
  | .st => .st
theorem ds_if {c : Expr} {a b : List Stmt} {t : Env → Out Bool} {ff gg : Env → Fl} (hc : DT X cA W t c) (ha : DSs X cA W k ff a) (hb : DSs X cA W k gg b) : DS X cA W k (dIf t ff gg) (.If c a b pos) := ds_of (ps_if hc ha hb) fun D σ H Z L ρ r w p => by
  refine ⟨Z, L, ρ, r, w, ?_⟩
  unfold dIf at p
  cases ht : t ρ with
  | st => rw [ht] at p; exact p
  | ex e ρ1 => rw [ht] at p; exact post_es p
  | ok b ρ1 =>
    rw [ht] at p
    intro H1 Z1 L1 r1 w1 F1
    cases b with
    | true => exact ⟨Z1, L1, ρ1, r1, w1, postS_tr F1 Pin.refl p⟩
    | false => exact ⟨Z1, L1, ρ1, r1, w1, postS_tr F1 Pin.refl p⟩
def dNo : Env → Fl := fun _ => .st
def stSet (i : Nat) (d : D) (ρ : Env) : Fl := if i < ρ.length then .nx (ρ.set i (some d)) else .st
theorem put_slot {K : PySem.W.Frag} {σ : L2.St} {H H1 : Hp} {Z Z1 : ZS} {L L1 fp : FP} {T : Ends} {ρ1 : Env} {i : Nat} {d : D} {v : V} (hk : k ≠ some i) (r1 : RelL K cA H1 Z1 ρ1 σ L1) (w1 : Wf H1 Z1 (fp ++ L1)) (h1 : RepD K cA H1 Z1 d v fp)
    (F1 : Fr H Z L H1 Z1 (fp ++ L1)) (p : PostS K cA W k σ H Z L T (stSet i d ρ1)) : T.nx (σ.set i (some v)) H1 := by
  unfold stSet at p
  split at p
  · rename_i hi
    obtain ⟨f0, f2, hs, q⟩ := relL_set r1 hi h1
    have pm : (fp ++ (f0 ++ f2)).Perm (f0 ++ fp ++ f2) := by
      rw [List.append_assoc]
      exact List.perm_append_comm_assoc fp f0 f2
    have w2 := (w1.less ((List.Sublist.refl fp).append hs)).perm pm
    exact p _ H1 Z1 _ q w2 (F1.less fun x m => by
      have := pm.mem_iff.mpr m
      rcases List.mem_append.mp this with z | z
      · simp [z]
      · simp [hs.subset z]) (Pin.set hk)
  · exact p.elim
theorem ds_set {i : Nat} {x : Str} {pos' : Pos} (hN : X.N.Nodup) (hi : X.N[i]? = some x) (hx : Loc X.env.scope x) (he : DE X cA W f e) (hk : k ≠ some i := by decide) (hs : swapsWith e (some (.Name x pos')) pos.line X.env = pure false := by kernel_rfl)
    (hf : X.fn x = true ∨ X.env.scope.names.lookup x = some .local := by first | exact .inl rfl | exact .inr rfl | assumption) : DS X cA W k (dBind f (stSet i)) (.Assign [.Name x pos'] e pos) :=
  ds_of (ps_set hN hi hx he hs hf) fun D σ H Z L ρ r w p => bind_te r w p fun d ρ1 v H1 Z1 L1 fp hd r1 w1 h1 F1 p => put_slot hk r1 w1 h1 F1 p
def But (ts : List Nat) (σ σ' : L2.St) : Prop := σ'.length = σ.length ∧ ∀ j, j ∉ ts → σ'[j]? = σ[j]?
theorem But.pin {ts : List Nat} {σ σ' : L2.St} (b : But ts σ σ') (h : ∀ i, k = some i → i ∉ ts) : Pin k σ σ' := fun i e => b.2 i (h i e)
theorem But.set {σ : L2.St} {i : Nat} {v : Option V} : But [i] σ (σ.set i v) := ⟨List.length_set .., fun j hj => by
  have : i ≠ j := fun z => hj (by simp [z])
  rw [List.getElem?_set_ne this]⟩
def TGof (K : PySem.W.Frag) (cA : Str → Addr) (ts : List Nat) (g : D → Env → Option Env) : TG := fun v σ H Q => ∃ d Z L ρ ρ', RelL K cA H Z ρ σ L ∧ Wf H Z L ∧ RepD K cA H Z d v [] ∧ g d ρ = some ρ' ∧
  ∀ σ' H' Z' L', RelL K cA H' Z' ρ' σ' L' → Wf H' Z' L' → Fr H Z L H' Z' L' → But ts σ σ' → Q σ' H'
def DG (X : Cx) (cA : Str → Addr) (ts : List Nat) (g : D → Env → Option Env) (tg : Expr) : Prop := PG X tg (TGof X.K cA ts g)
def tg1 (i : Nat) (d : D) (ρ : Env) : Option Env := if i < ρ.length then some (ρ.set i (some d)) else none
def tgL : List Nat → List D → Env → Option Env
  | [], [], ρ => some ρ
  | i :: is, d :: ds, ρ => if i < ρ.length then tgL is ds (ρ.set i (some d)) else none
  | _, _, _ => none
def tgT (is : List Nat) (d : D) (ρ : Env) : Option Env := match d with
  | .n .tup _ xs => tgL is xs ρ
  | _ => none
theorem PG.imp {tg : Expr} {t t' : TG} (h : PG X tg t) (i : ∀ v σ H Q, t' v σ H Q → t v σ H Q) : PG X tg t' := ⟨fun pins s σ H v u Q I r w => h.run pins s σ H v u Q I r (i v σ H Q w)⟩
theorem dg_name {i : Nat} {x : Str} (hN : X.N.Nodup) (hi : X.N[i]? = some x) (hx : Loc X.env.scope x) (hf : X.fn x = true ∨ X.env.scope.names.lookup x = some .local := by first | exact .inl rfl | exact .inr rfl | assumption) : DG X cA [i] (tg1 i) (.Name x pos) :=
  PG.imp (pg_name hN hi hx hf) fun v σ H Q ⟨d, Z, L, ρ, ρ', r, w, h, e, q⟩ => by
    unfold tg1 at e
    split at e
    · rename_i hl
      cases e
      obtain ⟨f0, f2, hs, q'⟩ := relL_set r hl h
      exact q _ H Z _ q' (w.less (by simpa using hs)) (Fr.refl.less fun x m => hs.subset (by simpa using m)) But.set
    · cases e
theorem tgL_len : ∀ {is : List Nat} {xs : List D} {ρ ρ' : Env}, tgL is xs ρ = some ρ' → xs.length = is.length
  | [], [], _, _, _ => rfl
  | [], a :: b, _, _, e => by simp [tgL] at e
  | i :: is, [], _, _, e => by simp [tgL] at e
  | i :: is, a :: b, ρ, ρ', e => by
    unfold tgL at e
    split at e
    · rw [List.length_cons, List.length_cons, tgL_len e]
    · cases e
theorem dFz_isF {f : Env → Out D} {ρ ρ1 : Env} {d : D} (h : dFz f ρ = .ok d ρ1) : isF d = true := by
  unfold dFz at h
  split at h
  · cases h
    exact isF_frz _
  · cases h
  · cases h
inductive DGs (X : Cx) : List Nat → List Expr → Prop where
  | nil : DGs X [] []
  | cons {i : Nat} {x : Str} {pos : Pos} {is : List Nat} {es : List Expr} (h : PG X (.Name x pos) (gName i)) (t : DGs X is es)
      (hs : (assignEach (.Name x pos :: es) X.env).map (·.2) = assign (.Name x pos) X.env :: (assignEach es X.env).map (·.2)) : DGs X (i :: is) (.Name x pos :: es)
def gNames : List Nat → TGs
  | [] => gNil
  | i :: is => gCons (gName i) (gNames is)
theorem DGs.pgs : ∀ {is : List Nat} {es : List Expr}, DGs X is es → PGs X es (gNames is)
  | _, _, .nil => pgs_nil
  | _, _, .cons h t hs => pgs_cons h t.pgs hs
theorem names_ok {K : PySem.W.Frag} {Q : L2.St → Hp → Prop} {H : Hp} {Z : ZS} : ∀ {is : List Nat} {ds : List D} {vs : List V} {ρ ρ' : Env} {σ : L2.St} {L : FP}, RelL K cA H Z ρ σ L → Wf H Z L → RepL K cA H Z ds vs [] → tgL is ds ρ = some ρ' →
    (∀ σ' L', RelL K cA H Z ρ' σ' L' → Wf H Z L' → Fr H Z L H Z L' → But is σ σ' → Q σ' H) → gNames is vs σ H Q
  | [], [], vs, ρ, ρ', σ, L, r, w, h, e, q => by
    cases e
    exact ⟨h.1, q σ L r w Fr.refl ⟨rfl, fun _ _ => rfl⟩⟩
  | [], d :: ds, vs, ρ, ρ', σ, L, r, w, h, e, q => by simp [tgL] at e
  | i :: is, [], vs, ρ, ρ', σ, L, r, w, h, e, q => by simp [tgL] at e
  | i :: is, d :: ds, vs, ρ, ρ', σ, L, r, w, h, e, q => by
    obtain ⟨v, vs', f1, f2, ev, h1, h2, ef⟩ := h
    have e2 := List.append_eq_nil_iff.mp ef.symm
    rw [e2.1] at h1
    rw [e2.2] at h2
    unfold tgL at e
    split at e
    · rename_i hl
      obtain ⟨f0, f3, hs, r'⟩ := relL_set r hl h1
      refine ⟨v, vs', ev, ?_⟩
      refine names_ok r' (w.less (by simpa using hs)) h2 e fun σ' L' r2 w2 F2 b2 => ?_
      refine q σ' L' r2 w2 ((Fr.refl.less fun x m => hs.subset (by simpa using m)).trans F2) ⟨by rw [b2.1, List.length_set], fun j hj => ?_⟩
      have hij : i ≠ j := fun z => hj (by simp [z])
      rw [b2.2 j fun m => hj (by simp [m]), List.getElem?_set_ne hij]
    · cases e
theorem dg_tup {is : List Nat} {es : List Expr} {x1 : Nat} {n : Nat} (hc : X.calm = true) (h : DGs X is es) (hl : is.length = n) (hn : (assignEach es X.env).length = n := by kernel_rfl) (hst : (assignEach es X.env).findIdx? (·.1) = none := by kernel_rfl) :
    DG X cA is (tgT is) (.Tuple es x1 pos) := PG.imp (pg_tup hc h.pgs hn hst) fun v σ H Q ⟨d, Z, L, ρ, ρ', r, w, hd, e, q⟩ => by
  unfold tgT at e
  split at e
  · rename_i o xs
    obtain ⟨p, vs, rfl, e1, r1, _⟩ := rep_tup hd
    have len : vs.length = n := by
      rw [repL_len r1, ← hl]
      exact tgL_len e
    exact ⟨p, vs, rfl, e1, len, names_ok r w r1 e fun σ' L' r2 w2 F2 b2 => q σ' H Z L' r2 w2 F2 b2⟩
  · cases e
def stTg (g : D → Env → Option Env) (d : D) (ρ : Env) : Fl := match g d ρ with
  | some ρ' => .nx ρ'
  | none => .st
theorem ds_asg {tg : Expr} {ts : List Nat} {g : D → Env → Option Env} (hg : DG X cA ts g tg) (he : DE X cA W (dFz f) e) (hk : ∀ i, k = some i → i ∉ ts) (hs : swapsWithSole [tg] e pos.line X.env = pure false := by kernel_rfl) (hw : swappedStores [tg] e X.env = pure none := by kernel_rfl)
    (h1 : (assignEach [tg] X.env).map (·.2) = [assign tg X.env] := by kernel_rfl) : DS X cA W k (dBind (dFz f) (stTg g)) (.Assign [tg] e pos) :=
  ds_of (ps_asg he hg hs hw h1) fun T σ H Z L ρ r w p => bind_te r w p fun d ρ1 v H1 Z1 L1 fp hd r1 w1 h1 F1 p => by
    unfold stTg at p
    split at p
    · rename_i ρ' hg'
      have ef := repD_isF d h1 (dFz_isF hd)
      subst ef
      exact ⟨d, Z1, L1, ρ1, ρ', r1, w1, h1, hg', fun σ' H' Z' L' r' w' F' b => p σ' H' Z' L' r' w' (F1.trans F') (b.pin hk)⟩
    · exact p.elim
def dPar (i j : Nat) (g : Env → Out (List Ag)) : Env → Fl := fun ρ => match g ρ with
  | .ok [.d a, .d b] ρ1 => if i < ρ1.length ∧ j < ρ1.length then .nx ((ρ1.set i (some a)).set j (some b)) else .st
  | .ok _ _ => .st
  | .ex e ρ1 => .ex e ρ1
  | .st => .st
def dAug (i : Nat) (h : Int → Int → Int) (f : Env → Out D) : Env → Fl := fun ρ => match ρ[i]? with
  | some (some (.a (.int a))) => (match f ρ with
    | .ok (.a (.int b)) ρ1 => stSet i (.int (h a b)) ρ1
    | .ok _ _ => .st
    | .ex e ρ1 => .ex e ρ1
    | .st => .st)
  | _ => .st
theorem ds_aug {i : Nat} {x : Str} {op : Operator} {h : Int → Int → Int} {pos' : Pos} (hN : X.N.Nodup) (hi : X.N[i]? = some x) (hx : Loc X.env.scope x) (he : DE X cA W f e) (ho : PIp X op (ipI h)) (hk : k ≠ some i := by decide)
    (hf : X.fn x = true ∨ X.env.scope.names.lookup x = some .local := by first | exact .inl rfl | exact .inr rfl | assumption) : DS X cA W k (dAug i h f) (.AugAssign (.Name x pos') op e pos) :=
  ds_of (ps_aug hN hi hx he ho hf) fun T σ H Z L ρ r w p => by
    unfold dAug at p
    split at p
    · rename_i a ha
      obtain ⟨v, f0, f1, f2, hv, hr, ef, _, _⟩ := relL_at r ha
      obtain ⟨e1, _⟩ := hr
      subst e1
      refine ⟨_, hv, Z, L, ρ, r, w, ?_⟩
      cases hg : f ρ with
      | st => rw [hg] at p; exact p
      | ex e ρ1 => rw [hg] at p; exact post_es p
      | ok d ρ1 =>
        rw [hg] at p
        intro u H1 Z1 L1 fp r1 w1 h1 F1
        cases d with
        | n k o xs => exact p.elim
        | a x =>
          cases x with
          | non => exact p.elim
          | bl b => exact p.elim
          | str s => exact p.elim
          | int b =>
            obtain ⟨e2, e3⟩ := h1
            subst e2 e3
            exact ⟨a, b, rfl, rfl, put_slot (fp := []) (d := .int (h a b)) hk r1 w1 ⟨rfl, rfl⟩ F1 p⟩
    · exact p.elim
end
end DL
namespace DL
open PySem L2
section
variable {K : PySem.W.Frag} {cA : Str → Addr} {H : Hp} {Z : ZS}
theorem set_same {σ : L2.St} {i : Nat} {v : V} (h : σ[i]? = some (some v)) : σ.set i (some v) = σ := by
  apply List.ext_getElem?
  intro j
  by_cases hj : i = j
  · subst hj
    rw [h, List.getElem?_set_self (List.getElem?_eq_some_iff.mp h).1]
  · rw [List.getElem?_set_ne hj]
theorem own_write {ρ : Env} {σ : L2.St} {L hd : FP} {i : Nat} {p : Addr} {ys : List D} {vs ws : List V} {f0 g f2 g2 : FP} {Z0 : ZS} {H0 : Hp} {L0 : FP}
    (w : Wf H Z (hd ++ L)) (r : RelL K cA H Z ρ σ L) (hp : H p = some (.lst vs)) (eL : L = f0 ++ (p :: g) ++ f2) (hσ : σ[i]? = some (some (.ref p)))
    (put : ∀ {H' : Hp} {Z' : ZS} {d' : D} {v' : V} {g' : FP}, (∀ a, Z a → Z' a) → (∀ a o, (Z a ∨ a ∈ f0 ∨ a ∈ f2) → H a = some o → H' a = some o) → RepD K cA H' Z' d' v' g' → RelL K cA H' Z' (ρ.set i (some d')) (σ.set i (some v')) (f0 ++ g' ++ f2))
    (ry : RepL K cA H Z ys ws g2) (sub : ∀ a ∈ g2, a ∈ g ∨ a ∈ hd) (nd2 : g2.Nodup) (F : Fr H0 Z0 L0 H Z (hd ++ L)) :
    RelL K cA (upd H p (.lst ws)) Z (ρ.set i (some (.lst true ys))) σ (f0 ++ (p :: g2) ++ f2) ∧ Wf (upd H p (.lst ws)) Z (f0 ++ (p :: g2) ++ f2) ∧ Fr H0 Z0 L0 (upd H p (.lst ws)) Z (f0 ++ (p :: g2) ++ f2) := by
  subst eL
  have nd := List.nodup_append.mp w.nd
  have ndL := List.nodup_append.mp nd.2.1
  have ndL1 := List.nodup_append.mp ndL.1
  have ndp := List.nodup_cons.mp ndL1.2.1
  have pz : ¬ Z p := w.dj p (by simp)
  have pf0 : p ∉ f0 := fun m => ndL1.2.2 p m p (by simp) rfl
  have pf2 : p ∉ f2 := fun m => ndL.2.2 p (by simp) p m rfl
  have phd : p ∉ hd := fun m => nd.2.2 p m p (by simp) rfl
  have pg2 : p ∉ g2 := fun m => (sub p m).elim ndp.1 phd
  have kn : ∀ a o, a ≠ p → H a = some o → upd H p (.lst ws) a = some o := fun a o n e => by rw [upd_ne n]; exact e
  have rep' : RepD K cA (upd H p (.lst ws)) Z (.lst true ys) (.ref p) (p :: g2) := ⟨p, ws, g2, rfl, repL_mono ys (fun _ z => z) (fun a o m e => kn a o (fun q => by
    subst q
    exact m.elim pz pg2) e) ry, ⟨upd_same, fun q => nomatch q⟩, rfl, fun q => nomatch q⟩
  have q := put (H' := upd H p (.lst ws)) (Z' := Z) (fun _ z => z) (fun a o m e => kn a o (fun q => by
    subst q
    rcases m with m | m | m
    · exact pz m
    · exact pf0 m
    · exact pf2 m) e) rep'
  rw [set_same hσ] at q
  have inall : ∀ a ∈ f0 ++ (p :: g2) ++ f2, a ∈ hd ++ (f0 ++ (p :: g) ++ f2) := fun a m => by
    simp only [List.mem_append, List.mem_cons] at m ⊢
    rcases m with (m | m | m) | m
    · simp [m]
    · simp [m]
    · rcases sub a m with z | z <;> simp [z]
    · simp [m]
  refine ⟨q, ⟨?_, fun a m => w.dj a (inall a m), fun a z => ?_⟩, ⟨fun a o e n => ?_, F.zm, F.zs, fun a m => F.ls a (inall a m)⟩⟩
  · refine List.nodup_append.mpr ⟨List.nodup_append.mpr ⟨ndL1.1, List.nodup_cons.mpr ⟨pg2, nd2⟩, fun a ha b hb e => ?_⟩, ndL.2.1, fun a ha b hb e => ?_⟩
    · subst e
      rcases List.mem_cons.mp hb with rfl | hb
      · exact pf0 ha
      · rcases sub a hb with z | z
        · exact ndL1.2.2 a ha a (by simp [z]) rfl
        · exact nd.2.2 a z a (by simp [ha]) rfl
    · subst e
      rcases List.mem_append.mp ha with ha | ha
      · exact ndL.2.2 a (by simp [ha]) a hb rfl
      · rcases List.mem_cons.mp ha with rfl | ha
        · exact pf2 hb
        · rcases sub a ha with z | z
          · exact ndL.2.2 a (by simp [z]) a hb rfl
          · exact nd.2.2 a z a (by simp [hb]) rfl
  · obtain ⟨o, e⟩ := w.tz a z
    by_cases h : a = p
    · subst h; exact absurd z pz
    · exact ⟨o, kn a o h e⟩
  · have h1 := F.keep a o e n
    by_cases h : a = p
    · subst h
      rcases F.ls a (by simp) with z | z
      · exact absurd z n
      · rw [z] at e; cases e
    · exact kn a o h h1
theorem relL_own {ρ : Env} {σ : L2.St} {L : FP} {i : Nat} {xs : List D} (r : RelL K cA H Z ρ σ L) (h : ρ[i]? = some (some (.lst true xs))) : ∃ p vs g f0 f2, σ[i]? = some (some (.ref p)) ∧ H p = some (.lst vs) ∧ RepL K cA H Z xs vs g ∧ L = f0 ++ (p :: g) ++ f2 ∧
    (∀ {H' : Hp} {Z' : ZS} {d' : D} {v' : V} {g' : FP}, (∀ a, Z a → Z' a) → (∀ a o, (Z a ∨ a ∈ f0 ∨ a ∈ f2) → H a = some o → H' a = some o) → RepD K cA H' Z' d' v' g' → RelL K cA H' Z' (ρ.set i (some d')) (σ.set i (some v')) (f0 ++ g' ++ f2)) := by
  obtain ⟨v, f0, f1, f2, hv, hr, ef, put, _⟩ := relL_at r h
  obtain ⟨p, vs, g, rfl, e1, r1, e2, _⟩ := rep_lst hr
  rw [if_pos rfl] at e2
  subst e2
  exact ⟨p, vs, g, f0, f2, hv, e1, r1, ef, put⟩
theorem repL_set' {xs : List D} {vs : List V} {g : FP} (h : RepL K cA H Z xs vs g) : ∀ {j : Nat} {d : D} {v : V} {f : FP}, j < xs.length → RepD K cA H Z d v f → ∃ g0 g2, (g0 ++ g2).Sublist g ∧ RepL K cA H Z (xs.set j d) (vs.set j v) (g0 ++ f ++ g2) := by
  induction xs generalizing vs g with
  | nil => intro j d v f hj; simp at hj
  | cons x xs ih =>
    intro j d v f hj hd
    obtain ⟨u, vs', f1, f2, ev, h1, h2, ef⟩ := h
    subst ev ef
    cases j with
    | zero => exact ⟨[], f2, by simp, v, vs', f, f2, rfl, hd, h2, by simp⟩
    | succ j =>
      obtain ⟨g0, g2, hs, q⟩ := ih h2 (by simpa using hj) hd
      refine ⟨f1 ++ g0, g2, by rw [List.append_assoc]; exact (List.Sublist.refl f1).append hs, u, vs'.set j v, f1, g0 ++ f ++ g2, rfl, h1, q, by simp⟩
theorem repL_erase {xs : List D} {vs : List V} {g : FP} (h : RepL K cA H Z xs vs g) : ∀ {j : Nat} {d : D}, xs[j]? = some d → ∃ v g0 f g2, vs[j]? = some v ∧ RepD K cA H Z d v f ∧ g = g0 ++ f ++ g2 ∧ RepL K cA H Z (xs.eraseIdx j) (vs.eraseIdx j) (g0 ++ g2) := by
  induction xs generalizing vs g with
  | nil => intro j d e; simp at e
  | cons x xs ih =>
    intro j d e
    obtain ⟨u, vs', f1, f2, ev, h1, h2, ef⟩ := h
    subst ev ef
    cases j with
    | zero =>
      simp at e; subst e
      exact ⟨u, [], f1, f2, rfl, h1, by simp, by simpa using h2⟩
    | succ j =>
      obtain ⟨v, g0, f, g2, hv, hr, eg, hx⟩ := ih h2 (by simpa using e)
      exact ⟨v, f1 ++ g0, f, g2, by simpa using hv, hr, by rw [eg]; simp, u, _, f1, g0 ++ g2, rfl, h1, hx, by simp⟩
end
def stApp (i : Nat) (d : D) (ρ : Env) : Fl := match ρ[i]? with
  | some (some (.n .lst true xs)) => if xs.length < cap then .nx (ρ.set i (some (.lst true (xs ++ [d])))) else .st
  | _ => .st
def stExt (i : Nat) (d : D) (ρ : Env) : Fl := match ρ[i]? with
  | some (some (.n .lst true xs)) => (match d with
    | .n .lst _ ys => if xs.length + ys.length ≤ cap ∧ isFL ys = true then .nx (ρ.set i (some (.lst true (xs ++ ys)))) else .st
    | _ => .st)
  | _ => .st
def dHas (i : Nat) (f : Env → Fl) : Env → Fl := fun ρ => match ρ[i]? with
  | some (some (.n .lst _ _)) => f ρ
  | _ => .st
section
variable {X : Cx} {cA : Str → Addr} {W : WX} {k : Option Nat} {f : Env → Out D} {e o : Expr} {pos apos cpos : Pos}
theorem ds_append {i : Nat} (ho : PE X o (tVar i)) (he : DE X cA W f e)
    (hbase : attributeBase o "append" X.env (eval o X.env) = eval o X.env := by kernel_rfl)
    (hfew : ((backTo cpos (starEach [e] X.env)).all (fun x => !x.1) && (backToKw cpos (keywordEach [] X.env)).all (fun x => x.1.isSome)
      && decide ([e].length + ([] : List Keyword).length + (if ([] : List Keyword).isEmpty then 0 else 1) < 30)) = true := by kernel_rfl)
    (hline : (apos.endLine == cpos.line) = true := by kernel_rfl) (hs : starEach [e] X.env = (false, eval e X.env) :: starEach [] X.env := by kernel_rfl)
    (hsw : swapsWith (.Call (.Attribute o "append" apos) [e] [] cpos) none pos.line X.env = pure false := by kernel_rfl) : DS X cA W k (dHas i (dBind f (stApp i))) (.Expr (.Call (.Attribute o "append" apos) [e] [] cpos) pos) :=
  ds_of (ps_expr (pe_bm PySem.F.plainAttrs_list PySem.F.slot_list_append PySem.F.type_list_append mt_append ho (pa_cons he pa_nil hs) hbase hfew hline hs rfl) hsw) fun T σ H Z L ρ r w p => by
    unfold dHas at p
    split at p
    · rename_i oo zs hz
      obtain ⟨v, f0, f1, f2, hv, hr, ef, _, _⟩ := relL_at r hz
      obtain ⟨p0, vs0, g0, rfl, e0, _, _, _⟩ := rep_lst hr
      refine ⟨_, hv, .inl ⟨rfl, _, SqL.of e0⟩, bind_te r w p fun d ρ1 u H1 Z1 L1 fp hd r1 w1 h1 F1 p => ?_⟩
      unfold stApp at p
      split at p
      · rename_i xs hx
        split at p
        · rename_i hl
          obtain ⟨q, vs, g, f0, f2, hσ, hp, rx, eL, put⟩ := relL_own r1 hx
          rw [hv] at hσ
          cases hσ
          have len := repL_len rx
          have ra := repL_append rx (repL_one h1)
          have nd := List.nodup_append.mp w1.nd
          show rAppend (.ref p0) [u] H1 (fun x H1 => T.nx σ H1)
          refine ⟨p0, vs, u, rfl, rfl, hp, cap_lt (by omega), ?_⟩
          have nd2 : (g ++ fp).Nodup := by
            rw [eL] at nd
            refine List.nodup_append.mpr ⟨(List.nodup_cons.mp (List.nodup_append.mp (List.nodup_append.mp nd.2.1).1).2.1).2, nd.1, fun a ha b hb e => ?_⟩
            subst e
            exact nd.2.2 a hb a (by simp [ha]) rfl
          obtain ⟨a, b, c⟩ := own_write w1 r1 hp eL hv put ra (fun a m => List.mem_append.mp m) nd2 F1
          exact p σ _ Z1 _ a b c Pin.refl
        · exact p.elim
      · exact p.elim
    · exact p.elim
def stSub (i : Nat) (fj : Env → Out D) (d : D) (ρ : Env) : Fl := match ρ[i]? with
  | some (some (.n .lst true _)) => (match fj ρ with
    | .ok (.a (.int z)) ρ2 => (match ρ2[i]? with
      | some (some (.n .lst true xs)) => (match ixN xs.length z with
        | some j => .nx (ρ2.set i (some (.lst true (xs.set j d))))
        | none => .st)
      | _ => .st)
    | .ok _ _ => .st
    | .ex e ρ2 => .ex e ρ2
    | .st => .st)
  | _ => .st
theorem ixN_lt {n : Nat} {z : Int} {j : Nat} (h : ixN n z = some j) : j < n := by
  obtain ⟨_, h2, _⟩ := ixN_seq h
  exact h2
theorem ds_sub {i : Nat} {ix : Expr} {fj : Env → Out D} {spos : Pos} (he : DE X cA W f e) (ho : PE X o (tVar i)) (hi : DE X cA W fj ix)
    (hs : swapsWithSole [.Subscript o ix spos] e pos.line X.env = pure false := by kernel_rfl) (hw : swappedStores [.Subscript o ix spos] e X.env = pure none := by kernel_rfl)
    (h1 : (assignEach [.Subscript o ix spos] X.env).map (·.2) = [assign (.Subscript o ix spos) X.env] := by kernel_rfl)
    (ha : ∀ v, assign (.Subscript o ix spos) X.env v = (do
      let ov ← holding [v] (eval o X.env)
      let iv ← holding [v, ov] (eval ix X.env)
      standAt spos
      holding [v, ov, iv] (setItem ov iv v)
      release [v, ov, iv] []) := by intro _; kernel_rfl) : DS X cA W k (dBind f (stSub i fj)) (.Assign [.Subscript o ix spos] e pos) :=
  ds_of (ps_asg he (pg_sub ho hi set_list ha) hs hw h1) fun T σ H Z L ρ r w p => bind_te r w p fun d ρ1 v H1 Z1 L1 fp hd r1 w1 h1 F1 p => by
    unfold stSub at p
    split at p
    · rename_i xs0 hx0
      obtain ⟨q, _, _, _, _, hσ, _, _, _, _⟩ := relL_own r1 hx0
      refine ⟨_, hσ, Z1, L1, ρ1, r1, w1.less (List.sublist_append_right _ _), ?_⟩
      cases hj : fj ρ1 with
      | st => rw [hj] at p; exact p
      | ex e ρ2 =>
        rw [hj] at p
        exact exw (post_es p) (F1.less fun x m => by simp [m])
      | ok d2 ρ2 =>
        rw [hj] at p
        intro u H2 Z2 L2 fp2 r2 w2 h2 F2
        have w12 : Wf H2 Z2 (fp ++ (fp2 ++ L2)) := w1.wait (repD_trk d h1) F2 w2
        have F12 := Fr.wait w1 F1 F2
        have hv2 := repD_wait w1 h1 F2
        cases d2 with
        | n k o xs => exact p.elim
        | a x =>
          cases x with
          | non => exact p.elim
          | bl b => exact p.elim
          | str s => exact p.elim
          | int z =>
            obtain ⟨e1, e2⟩ := h2
            subst e1 e2
            dsimp only at p
            split at p
            · rename_i xs hx
              split at p
              · rename_i j hj2
                obtain ⟨q2, vs, g, f0, f2, hσ2, hp, rx, eL, put⟩ := relL_own r2 hx
                rw [hσ] at hσ2
                cases hσ2
                have len := repL_len rx
                obtain ⟨g0, g2, hsb, rs⟩ := repL_set' rx (ixN_lt hj2) hv2
                refine ⟨q, vs, z, j, rfl, rfl, hp, by rw [len]; exact hj2, ?_⟩
                have nd := List.nodup_append.mp w12.nd
                have ndg : g.Nodup := by
                  have nl : L2.Nodup := by simpa using nd.2.1
                  rw [eL] at nl
                  exact (List.nodup_cons.mp (List.nodup_append.mp (List.nodup_append.mp nl).1).2.1).2
                have nd2 : (g0 ++ fp ++ g2).Nodup := by
                  have pm : (fp ++ (g0 ++ g2)).Perm (g0 ++ fp ++ g2) := by
                    rw [List.append_assoc]; exact List.perm_append_comm_assoc fp g0 g2
                  refine pm.nodup_iff.mp (List.nodup_append.mpr ⟨nd.1, ndg.sublist hsb, fun a ha b hb e => ?_⟩)
                  subst e
                  exact nd.2.2 a ha a (by rw [eL]; simp [hsb.subset hb]) rfl
                obtain ⟨a, b, c⟩ := own_write w12 r2 hp eL hσ put rs (fun a m => by
                  simp only [List.mem_append] at m
                  rcases m with (m | m) | m
                  · exact .inl (hsb.subset (by simp [m]))
                  · exact .inr m
                  · exact .inl (hsb.subset (by simp [m]))) nd2 F12
                exact p σ _ Z2 _ a b c Pin.refl
              · exact p.elim
            · exact p.elim
    · exact p.elim
def stSub2 (i : Nat) (qa qb : Env → Option At) (d : D) (ρ : Env) : Fl := match ρ[i]? with
  | some (some (.n .lst true xs)) => (match qa ρ, qb ρ with
    | some (.int a), some (.int b) => (match ixN xs.length a with
      | some j => (match xs[j]? with
        | some (.n .lst true ys) => (match ixN ys.length b with
          | some l => if isF d = true then .nx (ρ.set i (some (.lst true (xs.set j (.lst true (ys.set l d)))))) else .st
          | none => .st)
        | _ => .st)
      | none => .st)
    | _, _ => .st)
  | _ => .st
end
end DL
namespace DL
open PySem L2
def ItOf (K : PySem.W.Frag) (cA : Str → Addr) (J : It) (ds : List D) (H0 : Hp) (Z0 : ZS) : Prop :=
  ∀ i H Z1, (∀ a, Z0 a → Z1 a) → (∀ a o, Z0 a → H0 a = some o → H a = some o) → Wf H Z1 [] →
    (∀ d, ds[i]? = some d → J.go i H ∧ ∀ x H', J.yld i H x H' → ∃ Z2, Fr H Z1 [] H' Z2 [] ∧ Wf H' Z2 [] ∧ RepD K cA H' Z2 d x []) ∧ (ds.length ≤ i → J.stop i H)
section
variable (K : PySem.W.Frag) (cA : Str → Addr)
def PostI (W : WX) (σ : L2.St) (H : Hp) (Z : ZS) (L : FP) (R : It → Hp → Prop) : Out (List D) → Prop
  | .ok ds ρ' => ∀ J H' Z' L', RelL K cA H' Z' ρ' σ L' → Wf H' Z' L' → Fr H Z L H' Z' L' → ItOf K cA J ds H' Z' → R J H'
  | .ex e ρ' => ∀ cls d H' Z' L', RelL K cA H' Z' ρ' σ L' → Wf H' Z' L' → ExR cA H' Z' e cls d → Fr H Z L H' Z' L' → W cls d σ H'
  | .st => False
def TIof (W : WX) (f : Env → Out (List D)) : TI := fun σ H R => ∃ Z L ρ, RelL K cA H Z ρ σ L ∧ Wf H Z L ∧ PostI K cA W σ H Z L R (f ρ)
end
def DI (X : Cx) (cA : Str → Addr) (W : WX) (f : Env → Out (List D)) (tg iter : Expr) : Prop := PI X tg iter (TIof X.K cA W f)
theorem PI.imp {X : Cx} {tg iter : Expr} {t t' : TI} (h : PI X tg iter t) (i : ∀ σ H R, t' σ H R → t σ H R) : PI X tg iter t' := ⟨fun pins s σ H R I w => h.run pins s σ H R I (i σ H R w)⟩
theorem pi_or {X : Cx} {tg iter : Expr} {t t' : TI} (h : PI X tg iter t) (h' : PI X tg iter t') : PI X tg iter (fun σ H R => t σ H R ∨ t' σ H R) := ⟨fun pins s σ H R I w => by
  rcases w with w | w
  · exact h.run pins s σ H R I w
  · exact h'.run pins s σ H R I w⟩
section
variable {K : PySem.W.Frag} {cA : Str → Addr}
theorem rd_keep {H H' : Hp} {Z : ZS} {p : Addr} {u : HO} (z : Z p) (k : ∀ a o, Z a → H a = some o → H' a = some o) (r : Rd H p u) : Rd H' p u := rd_mono (fun o e => k p o z e) r
theorem it_list {H0 : Hp} {Z0 : ZS} {p : Addr} {vs : List V} {xs : List D} (z : Z0 p) (e : H0 p = some (.lst vs)) (r : RepL K cA H0 Z0 xs vs []) : ItOf K cA (Itl K p) xs H0 Z0 := by
  intro i H Z1 hz hk w
  have e1 := hk p _ z e
  have r1 : RepL K cA H Z1 xs vs [] := repL_mono xs hz (fun a o m e => by
    rcases m with m | m
    · exact hk a o m e
    · cases m) r
  refine ⟨fun d hd => ?_, fun hl => ⟨vs, SqL.of e1, by rw [repL_len r]; exact hl⟩⟩
  obtain ⟨v, f0, f1, f2, hv, hr, ef⟩ := repL_get r1 hd
  have e2 : f1 = [] := by
    have := congrArg List.length ef
    simp at this
    exact List.eq_nil_of_length_eq_zero (by omega)
  subst e2
  refine ⟨⟨vs, v, SqL.of e1, hv⟩, fun x H' y => ?_⟩
  obtain ⟨e3, y⟩ := y
  subst e3
  have := y vs (SqL.of e1)
  rw [hv] at this
  cases this
  exact ⟨Z1, Fr.refl, w, hr⟩
theorem it_tup {H0 : Hp} {Z0 : ZS} {p : Addr} {vs : List V} {xs : List D} (c : (Z0 p ∧ Rd H0 p (.tup vs)) ∨ KT K p vs) (r : RepL K cA H0 Z0 xs vs []) : ItOf K cA (Itt K p) xs H0 Z0 := by
  intro i H Z1 hz hk w
  have e1 : SqT K H p vs := by
    rcases c with ⟨z, q⟩ | q
    · exact .inl (rd_keep z hk q)
    · exact .inr q
  have r1 : RepL K cA H Z1 xs vs [] := repL_mono xs hz (fun a o m e => by
    rcases m with m | m
    · exact hk a o m e
    · cases m) r
  refine ⟨fun d hd => ?_, fun hl => ⟨vs, e1, by rw [repL_len r]; exact hl⟩⟩
  obtain ⟨v, f0, f1, f2, hv, hr, ef⟩ := repL_get r1 hd
  have e2 : f1 = [] := by
    have := congrArg List.length ef
    simp at this
    exact List.eq_nil_of_length_eq_zero (by omega)
  subst e2
  refine ⟨⟨vs, v, e1, hv⟩, fun x H' y => ?_⟩
  obtain ⟨e3, y⟩ := y
  subst e3
  have := y vs e1
  rw [hv] at this
  cases this
  exact ⟨Z1, Fr.refl, w, hr⟩
def intL (lo : Int) (n : Nat) : List D := (List.range n).map fun (i : Nat) => D.int (lo + (i : Int))
theorem intL_len (lo : Int) (n : Nat) : (intL lo n).length = n := by simp [intL]
theorem it_rng {H0 : Hp} {Z0 : ZS} {lo : Int} {n : Nat} : ItOf K cA (Itr lo n) (intL lo n) H0 Z0 := by
  intro i H Z1 hz hk w
  refine ⟨fun d hd => ?_, fun hl => by rw [intL_len] at hl; exact hl⟩
  have hi : i < n := by
    have := (List.getElem?_eq_some_iff.mp hd).1
    rw [intL_len] at this; exact this
  refine ⟨hi, fun x H' y => ?_⟩
  obtain ⟨e1, e2⟩ := y
  subst e1 e2
  have : d = .int (lo + i) := by
    simp [intL, hi] at hd
    exact hd.symm
  subst this
  exact ⟨Z1, Fr.refl, w, rfl, rfl⟩
def intsC (lo c : Int) (n : Nat) : List D := (List.range n).map fun (i : Nat) => D.int (lo + (i : Int) * c)
def signs (s : Str) : List D := s.cps.toList.map fun c => .str ⟨#[c]⟩
theorem it_str {H0 : Hp} {Z0 : ZS} {s : Str} : ItOf K cA (Its s) (signs s) H0 Z0 := by
  intro i H Z1 hz hk w
  refine ⟨fun d hd => ?_, fun hl => by
    have : s.cps.size ≤ i := by simpa [signs] using hl
    exact this⟩
  have hd' : (s.cps.toList[i]?).map (fun c => D.str ⟨#[c]⟩) = some d := by rw [← hd]; simp [signs]
  cases hc : s.cps.toList[i]? with
  | none => rw [hc] at hd'; cases hd'
  | some c =>
    rw [hc] at hd'
    cases hd'
    have hc' : s.cps[i]? = some c := by simpa using hc
    refine ⟨(Array.getElem?_eq_some_iff.mp hc').1, fun x H' y => ?_⟩
    obtain ⟨e1, c', e2, e3⟩ := y
    subst e1
    rw [hc'] at e2
    cases e2
    subst e3
    exact ⟨Z1, Fr.refl, w, rfl, rfl⟩
end
def itemsOf : D → Option (List D)
  | .n .lst _ xs => if xs.length ≤ cap then some xs else none
  | .n .tup _ xs => if xs.length ≤ cap then some xs else none
  | .a (.str s) => if s.length ≤ cap then some (signs s) else none
  | _ => none
def dIter (f : Env → Out D) : Env → Out (List D) := fun ρ => match f ρ with
  | .ok d ρ1 => (match itemsOf d with
    | some xs => if isF d = true then .ok xs ρ1 else .st
    | none => .st)
  | .ex e ρ1 => .ex e ρ1
  | .st => .st
def dRng1 (f : Env → Out D) : Env → Out (List D) := fun ρ => match f ρ with
  | .ok (.a (.int j)) ρ1 => if -1000000 ≤ j ∧ j ≤ 1000000 then .ok (intL 0 j.toNat) ρ1 else .st
  | .ok _ _ => .st
  | .ex e ρ1 => .ex e ρ1
  | .st => .st
def dRng2 (f g : Env → Out D) : Env → Out (List D) := fun ρ => match f ρ with
  | .ok (.a (.int i)) ρ1 => (match g ρ1 with
    | .ok (.a (.int j)) ρ2 => if (-1000000 ≤ i ∧ i ≤ 1000000) ∧ -1000000 ≤ j ∧ j ≤ 1000000 then .ok (intL i (j - i).toNat) ρ2 else .st
    | .ok _ _ => .st
    | .ex e ρ2 => .ex e ρ2
    | .st => .st)
  | .ok _ _ => .st
  | .ex e ρ1 => .ex e ρ1
  | .st => .st
section
variable {X : Cx} {cA : Str → Addr} {W : WX} {f g : Env → Out D} {e e2 tg : Expr} {p pos : Pos}
theorem di_of (he : DE X cA W f e) : DI X cA W (dIter f) tg e :=
  PI.imp (pi_or (pi_list he) (pi_or (pi_tup he) (pi_str he))) fun σ H R ⟨Z, L, ρ, r, w, q⟩ => by
    unfold dIter at q
    cases hf : f ρ with
    | st => rw [hf] at q; exact q.elim
    | ex e ρ1 =>
      rw [hf] at q
      exact .inl ⟨Z, L, ρ, r, w, by rw [hf]; exact q⟩
    | ok d ρ1 =>
      rw [hf] at q
      dsimp only at q
      split at q
      · rename_i xs hx
        split at q
        · rename_i hF
          unfold itemsOf at hx
          split at hx
          · rename_i o ys
            split at hx
            · cases hx
              refine .inl ⟨Z, L, ρ, r, w, ?_⟩
              rw [hf]
              intro v H1 Z1 L1 fp r1 w1 h1 F1
              have efp := repD_isF _ h1 hF
              subst efp
              have ho : o = false := by
                have : (!o && isFL xs) = true := hF
                simp at this; exact this.1
              subst ho
              obtain ⟨q0, vs, g, rfl, e1, rr, _, zz⟩ := rep_lst h1
              obtain ⟨z1, z2⟩ := zz rfl
              subst z2
              exact ⟨q0, rfl, ⟨vs, SqL.of e1⟩, q _ H1 Z1 L1 r1 w1 F1 (it_list z1 e1 rr)⟩
            · cases hx
          · rename_i o ys
            split at hx
            · cases hx
              refine .inr (.inl ⟨Z, L, ρ, r, w, ?_⟩)
              rw [hf]
              intro v H1 Z1 L1 fp r1 w1 h1 F1
              obtain ⟨q0, vs, rfl, e1, rr, rfl, _, cc⟩ := rep_tup h1
              exact ⟨q0, rfl, ⟨vs, e1⟩, q _ H1 Z1 L1 r1 w1 F1 (it_tup cc rr)⟩
            · cases hx
          · rename_i s
            split at hx
            · cases hx
              refine .inr (.inr ⟨Z, L, ρ, r, w, ?_⟩)
              rw [hf]
              intro v H1 Z1 L1 fp r1 w1 h1 F1
              obtain ⟨e1, e2⟩ := h1
              subst e1 e2
              exact ⟨s, rfl, q _ H1 Z1 L1 r1 w1 F1 it_str⟩
            · cases hx
          · cases hx
        · exact q.elim
      · exact q.elim
theorem post_int {K : PySem.W.Frag} {σ : L2.St} {H : Hp} {Z : ZS} {L : FP} {ρ : Env} {Q : VK} (r : RelL K cA H Z ρ σ L) (w : Wf H Z L)
    (h : match f ρ with
      | .ok (.a (.int i)) ρ1 => ∀ H1 Z1 L1, RelL K cA H1 Z1 ρ1 σ L1 → Wf H1 Z1 L1 → Fr H Z L H1 Z1 L1 → Q (.int i) H1
      | .ok _ _ => False
      | .ex e ρ1 => ∀ cls d H' Z' L', RelL K cA H' Z' ρ1 σ L' → Wf H' Z' L' → ExR cA H' Z' e cls d → Fr H Z L H' Z' L' → W cls d σ H'
      | .st => False) : TEof K cA W f σ H Q := by
  refine ⟨Z, L, ρ, r, w, ?_⟩
  cases hf : f ρ with
  | st => rw [hf] at h; exact h
  | ex e ρ1 => rw [hf] at h; exact h
  | ok d ρ1 =>
    rw [hf] at h
    intro v H1 Z1 L1 fp r1 w1 h1 F1
    cases d with
    | n k o xs => exact h.elim
    | a x =>
      cases x with
      | non => exact h.elim
      | bl b => exact h.elim
      | str s => exact h.elim
      | int i =>
        obtain ⟨e1, e2⟩ := h1
        subst e1 e2
        exact h H1 Z1 L1 r1 w1 F1
theorem di_rng1 (hg : Gl X "range") (hm : X.mg "range" = none) (he : DE X cA W f e) (hs : starEach [e] X.env = [(false, eval e X.env)] := by kernel_rfl) : DI X cA W (dRng1 f) tg (.Call (.Name "range" p) [e] [] pos) :=
  PI.imp (pi_range1 hg hm (pa_cons he pa_nil hs) hs) fun σ H R ⟨Z, L, ρ, r, w, q⟩ => by
    refine post_int r w ?_
    unfold dRng1 at q
    cases hf : f ρ with
    | st => rw [hf] at q; exact q
    | ex e ρ1 => rw [hf] at q; exact q
    | ok d ρ1 =>
      rw [hf] at q
      cases d with
      | n k o xs => exact q.elim
      | a x =>
        cases x with
        | non => exact q.elim
        | bl b => exact q.elim
        | str s => exact q.elim
        | int i =>
          dsimp only at q
          split at q
          · rename_i hi
            intro H1 Z1 L1 r1 w1 F1
            exact ⟨i, rfl, by omega, by omega, q _ H1 Z1 L1 r1 w1 F1 it_rng⟩
          · exact q.elim
end
def forL (g : D → Env → Option Env) (b : Env → Fl) : List D → Env → Fl
  | [], ρ => .nx ρ
  | d :: ds, ρ => match g d ρ with
    | none => .st
    | some ρ1 => match b ρ1 with
      | .nx ρ2 => forL g b ds ρ2
      | .ct ρ2 => forL g b ds ρ2
      | .bk ρ2 => .nx ρ2
      | .rt d ρ2 => .rt d ρ2
      | .ex e ρ2 => .ex e ρ2
      | .st => .st
def dFor (src : Env → Out (List D)) (g : D → Env → Option Env) (b : Env → Fl) : Env → Fl := fun ρ => match src ρ with
  | .ok ds ρ1 => forL g b ds ρ1
  | .ex e ρ1 => .ex e ρ1
  | .st => .st
theorem drop_cons' {α : Type} {l : List α} {i : Nat} {d : α} (h : l[i]? = some d) : l.drop i = d :: l.drop (i + 1) := by
  obtain ⟨h1, h2⟩ := List.getElem?_eq_some_iff.mp h
  rw [List.drop_eq_getElem_cons h1, h2]
section
variable {X : Cx} {cA : Str → Addr} {W : WX} {k : Option Nat} {src : Env → Out (List D)} {ts : List Nat} {g : D → Env → Option Env} {b : Env → Fl} {iter tg : Expr} {body : List Stmt} {pos : Pos}
theorem it_turn {K : PySem.W.Frag} {J : It} {ds : List D} {H0 H : Hp} {Z0 Z : ZS} {L0 L : FP} {ρ : Env} {σ : L2.St} (hi : ItOf K cA J ds H0 Z0) (w0 : Wf H0 Z0 L0) (F : Fr H0 Z0 L0 H Z L) (r : RelL K cA H Z ρ σ L) (w : Wf H Z L) (i : Nat) :
    (∀ d, ds[i]? = some d → J.go i H ∧ ∀ x H', J.yld i H x H' → ∃ Z2, RelL K cA H' Z2 ρ σ L ∧ Wf H' Z2 L ∧ Fr H Z L H' Z2 L ∧ RepD K cA H' Z2 d x []) ∧ (ds.length ≤ i → J.stop i H) := by
  obtain ⟨a, b⟩ := hi i H Z F.zm (fun a o z e => F.keep a o e fun m => w0.dj a m z) (wf0 w)
  refine ⟨fun d hd => ⟨(a d hd).1, fun x H' y => ?_⟩, b⟩
  obtain ⟨Z2, F2, w2, h2⟩ := (a d hd).2 x H' y
  obtain ⟨r3, w3, F3⟩ := hand0 w r F2 w2
  exact ⟨Z2, r3, w3, F3, h2⟩
theorem ds_for (hp : PassesOwn (model X.prog X.w) X.A X.env X.xe) (hc : X.calm = true) (hi : DI X cA W src tg iter) (hg : DG X cA ts g tg) (hb : DSs X cA W k b body) (hk : ∀ i, k = some i → i ∉ ts)
    (hs : ∀ x, foldedSetIterable iter X.env x = pure x := by intro _; kernel_rfl) : DS X cA W k (dFor src g b) (.For tg iter body [] pos) := ds_of (L2.ps_for hp hc hi hg hb hs) fun T σ H Z L ρ r w p => by
  refine ⟨Z, L, ρ, r, w, ?_⟩
  unfold dFor at p
  cases hsrc : src ρ with
  | st => rw [hsrc] at p; exact p
  | ex e ρ1 => rw [hsrc] at p; exact post_es p
  | ok ds ρ1 =>
    rw [hsrc] at p
    intro J H1 Z1 L1 r1 w1 F1 hit
    refine ⟨fun i m σi Hi => m = ds.length - i ∧ i ≤ ds.length ∧ ∃ Zi Li ρi, RelL X.K cA Hi Zi ρi σi Li ∧ Wf Hi Zi Li ∧ Fr H1 Z1 L1 Hi Zi Li ∧ Pin k σ σi ∧ PostS X.K cA W k σ H Z L T (forL g b (ds.drop i) ρi), ⟨_, rfl, Nat.zero_le _, Z1, L1, ρ1, r1, w1, Fr.refl, Pin.refl, p⟩, ?_⟩
    rintro i m σi Hi ⟨rfl, hil, Zi, Li, ρi, ri, wi, Fi, pi, qi⟩
    obtain ⟨tn, stp⟩ := it_turn hit w1 Fi ri wi i
    cases hd : ds[i]? with
    | none =>
      left
      have hl : ds.length ≤ i := List.getElem?_eq_none_iff.mp hd
      refine ⟨stp hl, ?_⟩
      rw [List.drop_eq_nil_of_le hl] at qi
      exact qi σi Hi Zi Li ri wi (F1.trans Fi) pi
    | some d =>
      right
      obtain ⟨go, yl⟩ := tn d hd
      have hlt : i < ds.length := (List.getElem?_eq_some_iff.mp hd).1
      rw [drop_cons' hd] at qi
      unfold forL at qi
      refine ⟨go, fun σ' H' => ∃ Z' L' ρ', RelL X.K cA H' Z' ρ' σ' L' ∧ Wf H' Z' L' ∧ Fr H1 Z1 L1 H' Z' L' ∧ Pin k σ σ' ∧ PostS X.K cA W k σ H Z L T (forL g b (ds.drop (i + 1)) ρ'), ?_, fun x H' y => ?_⟩
      · rintro σ' H' ⟨Z', L', ρ', a1, a2, a3, a4, a5⟩
        exact ⟨ds.length - (i + 1), by omega, rfl, hlt, Z', L', ρ', a1, a2, a3, a4, a5⟩
      · obtain ⟨Z2, r2, w2, F2, h2⟩ := yl x H' y
        cases hgd : g d ρi with
        | none => rw [hgd] at qi; exact qi.elim
        | some ρa =>
          rw [hgd] at qi
          refine ⟨d, Z2, Li, ρi, ρa, r2, w2, h2, hgd, fun σa Ha Za La ra wa Fa ba => ?_⟩
          have FA : Fr H1 Z1 L1 Ha Za La := (Fi.trans F2).trans Fa
          have pA : Pin k σ σa := pi.trans (ba.pin hk)
          refine ⟨Za, La, ρa, ra, wa, ?_⟩
          dsimp only at qi
          cases hbo : b ρa with
          | st => rw [hbo] at qi; exact qi
          | nx ρ2 => rw [hbo] at qi; exact fun σ' H' Z' L' a1 a2 a3 a4 => ⟨Z', L', ρ2, a1, a2, FA.trans a3, pA.trans a4, qi⟩
          | ct ρ2 => rw [hbo] at qi; exact fun σ' H' Z' L' a1 a2 a3 a4 => ⟨Z', L', ρ2, a1, a2, FA.trans a3, pA.trans a4, qi⟩
          | bk ρ2 => rw [hbo] at qi; exact fun σ' H' Z' L' a1 a2 a3 a4 => qi σ' H' Z' L' a1 a2 ((F1.trans FA).trans a3) (pA.trans a4)
          | rt d ρ2 => rw [hbo] at qi; exact fun v σ' H' Z' L' fp a1 a2 a3 a4 a5 => qi v σ' H' Z' L' fp a1 a2 a3 ((F1.trans FA).trans a4) (pA.trans a5)
          | ex e ρ2 => rw [hbo] at qi; exact fun cls d σ' H' Z' L' a1 a2 a3 a4 a5 => qi cls d σ' H' Z' L' a1 a2 a3 ((F1.trans FA).trans a4) (pA.trans a5)
end
def whL (t : Env → Out Bool) (b : Env → Fl) : Nat → Env → Fl
  | 0, _ => .st
  | m + 1, ρ => match t ρ with
    | .ok false ρ1 => .nx ρ1
    | .ok true ρ1 => (match b ρ1 with
      | .nx ρ2 => whL t b m ρ2
      | .ct ρ2 => whL t b m ρ2
      | .bk ρ2 => .nx ρ2
      | .rt d ρ2 => .rt d ρ2
      | .ex e ρ2 => .ex e ρ2
      | .st => .st)
    | .ex e ρ1 => .ex e ρ1
    | .st => .st
section
variable {X : Cx} {cA : Str → Addr} {W : WX} {k : Option Nat} {t : Env → Out Bool} {b : Env → Fl} {c : Expr} {body : List Stmt} {pos : Pos}
theorem ds_while (m0 : Nat) (hp : PassesOwn (model X.prog X.w) X.A X.env X.xe) (hc : DT X cA W t c) (hb : DSs X cA W k b body) : DS X cA W k (whL t b m0) (.While c body [] pos) := ds_of (L2.ps_while hp hc hb) fun T σ H Z L ρ r w p => by
  refine ⟨fun m σi Hi => ∃ Zi Li ρi, RelL X.K cA Hi Zi ρi σi Li ∧ Wf Hi Zi Li ∧ Fr H Z L Hi Zi Li ∧ Pin k σ σi ∧ PostS X.K cA W k σ H Z L T (whL t b m ρi), ⟨m0, Z, L, ρ, r, w, Fr.refl, Pin.refl, p⟩, ?_⟩
  rintro m σi Hi ⟨Zi, Li, ρi, ri, wi, Fi, pi, qi⟩
  cases m with
  | zero => exact qi.elim
  | succ m =>
    unfold whL at qi
    refine ⟨Zi, Li, ρi, ri, wi, ?_⟩
    cases ht : t ρi with
    | st => rw [ht] at qi; exact qi
    | ex e ρ1 => rw [ht] at qi; exact fun cls d H' Z' L' a1 a2 a3 a4 => qi cls d σi H' Z' L' a1 a2 a3 (Fi.trans a4) pi
    | ok v ρ1 =>
      rw [ht] at qi
      intro Ha Za La ra wa Fa
      have FA := Fi.trans Fa
      cases v with
      | false => exact qi σi Ha Za La ra wa FA pi
      | true =>
        rw [if_pos rfl]
        refine ⟨fun σ' H' => ∃ Z' L' ρ', RelL X.K cA H' Z' ρ' σ' L' ∧ Wf H' Z' L' ∧ Fr H Z L H' Z' L' ∧ Pin k σ σ' ∧ PostS X.K cA W k σ H Z L T (whL t b m ρ'), fun σ' H' q => ⟨m, Nat.lt_succ_self _, q⟩, Za, La, ρ1, ra, wa, ?_⟩
        dsimp only at qi
        cases hbo : b ρ1 with
        | st => rw [hbo] at qi; exact qi
        | nx ρ2 => rw [hbo] at qi; exact fun σ' H' Z' L' a1 a2 a3 a4 => ⟨Z', L', ρ2, a1, a2, FA.trans a3, pi.trans a4, qi⟩
        | ct ρ2 => rw [hbo] at qi; exact fun σ' H' Z' L' a1 a2 a3 a4 => ⟨Z', L', ρ2, a1, a2, FA.trans a3, pi.trans a4, qi⟩
        | bk ρ2 => rw [hbo] at qi; exact fun σ' H' Z' L' a1 a2 a3 a4 => qi σ' H' Z' L' a1 a2 (FA.trans a3) (pi.trans a4)
        | rt d ρ2 => rw [hbo] at qi; exact fun v σ' H' Z' L' fp a1 a2 a3 a4 a5 => qi v σ' H' Z' L' fp a1 a2 a3 (FA.trans a4) (pi.trans a5)
        | ex e ρ2 => rw [hbo] at qi; exact fun cls d σ' H' Z' L' a1 a2 a3 a4 a5 => qi cls d σ' H' Z' L' a1 a2 a3 (FA.trans a4) (pi.trans a5)
end
end DL
namespace DL
open PySem L2
def wipeE (ρ : Env) : List Nat → Env
  | [] => ρ
  | v :: vs => (wipeE ρ vs).set v none
def backE (ρ1 : Env) : List Nat → Env → Env
  | [], ρ => ρ
  | v :: vs, ρ => match ρ1[v]? with
    | some (some d) => if isF d = true ∧ v < (backE ρ1 vs ρ).length then (backE ρ1 vs ρ).set v (some d) else backE ρ1 vs ρ
    | _ => backE ρ1 vs ρ
section
variable {K : PySem.W.Frag} {cA : Str → Addr} {H : Hp} {Z : ZS}
theorem relL_cong : ∀ {ρ : Env} {σ σ' : L2.St} {L : FP}, RelL K cA H Z ρ σ L → σ'.length = σ.length → (∀ (i : Nat) (d : D), ρ[i]? = some (some d) → σ'[i]? = σ[i]?) → RelL K cA H Z ρ σ' L
  | [], σ, σ', L, h, hl, _ => by
    have e := h.1
    subst e
    have : σ' = [] := List.eq_nil_of_length_eq_zero (by simpa using hl)
    subst this
    exact h
  | none :: ρ, σ, σ', L, h, hl, hs => by
    obtain ⟨x, σ1, e, r⟩ := h
    subst e
    cases σ' with
    | nil => simp at hl
    | cons y σ2 => exact ⟨y, σ2, rfl, relL_cong r (by simpa using hl) fun i d e => by simpa using hs (i + 1) d (by simpa using e)⟩
  | some d :: ρ, σ, σ', L, h, hl, hs => by
    obtain ⟨v, σ1, f1, f2, e, h1, h2, ef⟩ := h
    subst e
    cases σ' with
    | nil => simp at hl
    | cons y σ2 =>
      have h0 := hs 0 d rfl
      simp at h0
      subst h0
      exact ⟨v, σ2, f1, f2, rfl, h1, relL_cong h2 (by simpa using hl) fun i d e => by simpa using hs (i + 1) d (by simpa using e), ef⟩
theorem relL_none : ∀ {ρ : Env} {σ : L2.St} {L : FP} (i : Nat), RelL K cA H Z ρ σ L → ∃ L', L'.Sublist L ∧ RelL K cA H Z (ρ.set i none) σ L'
  | [], σ, L, i, h => ⟨L, List.Sublist.refl _, by simpa using h⟩
  | none :: ρ, σ, L, 0, h => ⟨L, List.Sublist.refl _, h⟩
  | some d :: ρ, σ, L, 0, h => by
    obtain ⟨v, σ1, f1, f2, e, h1, h2, ef⟩ := h
    subst ef
    exact ⟨f2, List.sublist_append_right _ _, some v, σ1, e, h2⟩
  | none :: ρ, σ, L, i + 1, h => by
    obtain ⟨x, σ1, e, r⟩ := h
    obtain ⟨L', hs, q⟩ := relL_none i r
    exact ⟨L', hs, x, σ1, e, q⟩
  | some d :: ρ, σ, L, i + 1, h => by
    obtain ⟨v, σ1, f1, f2, e, h1, h2, ef⟩ := h
    subst ef
    obtain ⟨L', hs, q⟩ := relL_none i h2
    exact ⟨f1 ++ L', (List.Sublist.refl f1).append hs, v, σ1, f1, L', e, h1, q, rfl⟩
theorem wipeE_some {ρ : Env} {i : Nat} {d : D} : ∀ {vs : List Nat}, (wipeE ρ vs)[i]? = some (some d) → i ∉ vs ∧ ρ[i]? = some (some d)
  | [], h => ⟨by simp, h⟩
  | v :: vs, h => by
    unfold wipeE at h
    by_cases e : v = i
    · subst e
      by_cases hl : v < (wipeE ρ vs).length
      · rw [List.getElem?_set_self hl] at h; cases h
      · rw [List.getElem?_eq_none (by rw [List.length_set]; omega)] at h; cases h
    · rw [List.getElem?_set_ne e] at h
      obtain ⟨h1, h2⟩ := wipeE_some h
      exact ⟨by simp only [List.mem_cons, not_or]; exact ⟨fun z => e z.symm, h1⟩, h2⟩
theorem relL_wipe {ρ : Env} {σ : L2.St} {L : FP} (h : RelL K cA H Z ρ σ L) (vs : List Nat) : ∃ L', L'.Sublist L ∧ RelL K cA H Z (wipeE ρ vs) (wipe σ vs) L' := by
  have key : ∀ vs, ∃ L', L'.Sublist L ∧ RelL K cA H Z (wipeE ρ vs) σ L' := by
    intro vs
    induction vs with
    | nil => exact ⟨L, List.Sublist.refl _, h⟩
    | cons v vs ih =>
      obtain ⟨L1, s1, r1⟩ := ih
      obtain ⟨L2, s2, r2⟩ := relL_none v r1
      exact ⟨L2, s2.trans s1, r2⟩
  obtain ⟨L', hs, r⟩ := key vs
  refine ⟨L', hs, relL_cong r (wipe_length σ vs) fun i d e => ?_⟩
  exact wipe_out (wipeE_some e).1
theorem relL_back {H1 : Hp} {Z1 : ZS} {ρ1 ρ : Env} {σ : L2.St} {L1 L : FP} (r1 : RelL K cA H1 Z1 ρ1 σ L1) (hz : ∀ a, Z1 a → Z a) (hk : ∀ a o, Z1 a → H1 a = some o → H a = some o) : ∀ vs : List Nat, RelL K cA H Z (wipeE ρ vs) (wipe σ vs) L →
    ∃ L', L'.Sublist L ∧ RelL K cA H Z (backE ρ1 vs (wipeE ρ vs)) σ L' := by
  intro vs h
  have h0 : RelL K cA H Z (wipeE ρ vs) σ L := relL_cong h (wipe_length σ vs).symm fun i d e => (wipe_out (wipeE_some e).1).symm
  generalize wipeE ρ vs = ρw at h0
  clear h
  induction vs with
  | nil => exact ⟨L, List.Sublist.refl _, h0⟩
  | cons v vs ih =>
    obtain ⟨L', hs, r⟩ := ih
    unfold backE
    split
    · rename_i d hd
      split
      · rename_i hc
        obtain ⟨u, f0, f1, f2, hu, hr, ef, _, _⟩ := relL_at r1 hd
        have e := repD_isF d hr hc.1
        subst e
        have hr' : RepD K cA H Z d u [] := repD_mono d hz (fun a o m e => by
          rcases m with m | m
          · exact hk a o m e
          · cases m) hr
        obtain ⟨g0, g2, hs2, q⟩ := relL_set r hc.2 hr'
        rw [set_same hu] at q
        exact ⟨_, (by simpa using hs2 : (g0 ++ [] ++ g2).Sublist L').trans hs, q⟩
      · exact ⟨L', hs, r⟩
    · exact ⟨L', hs, r⟩
theorem wipe_but {σ σ2 : L2.St} {ts : List Nat} : ∀ {vs : List Nat}, (∀ i ∈ ts, i ∈ vs) → But ts (wipe σ vs) σ2 → wipe σ2 vs = wipe σ vs := by
  intro vs hsub b
  have wl : ∀ (τ : L2.St) (vs : List Nat) (i : Nat), i ∈ vs → i < τ.length → (wipe τ vs)[i]? = some none := by
    intro τ vs
    induction vs with
    | nil => intro i h; cases h
    | cons v vs ih =>
      intro i h hl
      unfold wipe
      by_cases e : v = i
      · subst e
        rw [List.getElem?_set_self (by rw [wipe_length]; exact hl)]
      · rw [List.getElem?_set_ne e]
        rcases List.mem_cons.mp h with z | z
        · exact absurd z.symm e
        · exact ih i z hl
  have len : σ2.length = σ.length := by rw [b.1, wipe_length]
  apply List.ext_getElem?
  intro i
  by_cases hi : i ∈ vs
  · by_cases hl : i < σ.length
    · rw [wl σ2 vs i hi (by omega), wl σ vs i hi hl]
    · rw [List.getElem?_eq_none (by rw [wipe_length]; omega), List.getElem?_eq_none (by rw [wipe_length]; omega)]
  · rw [wipe_out hi, b.2 i (fun m => hi (hsub i m)), wipe_out hi]
end
def lcL (vs : List Nat) (g : D → Env → Option Env) (t : Env → Out Bool) (f : Env → Out D) : List D → Env → Out (List D)
  | [], ρ => .ok [] ρ
  | d :: ds, ρ => match g d ρ with
    | none => .st
    | some ρ1 => match t ρ1 with
      | .ok true ρ2 => (match f ρ2 with
        | .ok y ρ3 => (match lcL vs g t f ds (wipeE ρ3 vs) with
          | .ok ys ρ4 => .ok (y :: ys) ρ4
          | _ => .st)
        | _ => .st)
      | .ok false ρ2 => lcL vs g t f ds (wipeE ρ2 vs)
      | _ => .st
def dLc (vs : List Nat) (src : Env → Out (List D)) (g : D → Env → Option Env) (t : Env → Out Bool) (f : Env → Out D) : Env → Out D := fun ρ => match src ρ with
  | .ok ds ρ1 => if ds.length ≤ cap then (match lcL vs g t f ds (wipeE ρ1 vs) with
    | .ok ys ρ2 => .ok (.lst true ys) (backE ρ1 vs (wipeE ρ2 vs))
    | _ => .st) else .st
  | .ex e ρ1 => .ex e ρ1
  | .st => .st
abbrev WN : WX := fun _ _ _ _ => False
def DTs (X : Cx) (cA : Str → Addr) (W : WX) (f : Env → Out Bool) (es : List Expr) : Prop := PTs X es (TTof X.K cA W f)
def dYes : Env → Out Bool := fun ρ => .ok true ρ
theorem PTs.imp {X : Cx} {es : List Expr} {t t' : TT} (h : PTs X es t) (i : ∀ σ H Q, t' σ H Q → t σ H Q) : PTs X es t' := ⟨fun pins s σ H Q I w => h.run pins s σ H Q I (i σ H Q w)⟩
theorem dts_nil {X : Cx} {cA : Str → Addr} {W : WX} : DTs X cA W dYes [] := PTs.imp pts_nil fun σ H Q ⟨Z, L, ρ, r, w, p⟩ => p H Z L r w Fr.refl
theorem dts_one {X : Cx} {cA : Str → Addr} {W : WX} {t : Env → Out Bool} {c : Expr} (h : DT X cA W t c) : DTs X cA W t [c] := pts_one h
section
variable {X : Cx} {cA : Str → Addr} {W : WX} {src : Env → Out (List D)} {ts : List Nat} {g : D → Env → Option Env} {t : Env → Out Bool} {f : Env → Out D} {iter tg elt : Expr} {ifs : List Expr} {scope : Scope} {own : List (Str × Nat)} {pos : Pos}
theorem acc_put {K : PySem.W.Frag} {H : Hp} {Z : ZS} {q : Addr} {acc : List D} {vacc : List V} {gacc fp L : FP} {y : D} {v : V} (w : Wf H Z ((q :: gacc) ++ (fp ++ L))) (hq : H q = some (.lst vacc)) (ra : RepL K cA H Z acc vacc gacc) (ry : RepD K cA H Z y v fp)
    {ρ : Env} {σ : L2.St} (r : RelL K cA H Z ρ σ L) {H0 : Hp} {Z0 : ZS} {L0 : FP} (F : Fr H0 Z0 L0 H Z ((q :: gacc) ++ (fp ++ L))) :
    RepL K cA (upd H q (.lst (vacc ++ [v]))) Z (acc ++ [y]) (vacc ++ [v]) (gacc ++ fp) ∧ RelL K cA (upd H q (.lst (vacc ++ [v]))) Z ρ σ L ∧ Wf (upd H q (.lst (vacc ++ [v]))) Z ((q :: (gacc ++ fp)) ++ L) ∧ Fr H0 Z0 L0 (upd H q (.lst (vacc ++ [v]))) Z ((q :: (gacc ++ fp)) ++ L) := by
  have nd := List.nodup_append.mp w.nd
  have nq := List.nodup_cons.mp nd.1
  have qz : ¬ Z q := w.dj q (by simp)
  have qfp : q ∉ fp := fun m => nd.2.2 q (by simp) q (by simp [m]) rfl
  have qL : q ∉ L := fun m => nd.2.2 q (by simp) q (by simp [m]) rfl
  have kn : ∀ a o, a ≠ q → H a = some o → upd H q (.lst (vacc ++ [v])) a = some o := fun a o n e => by rw [upd_ne n]; exact e
  have e1 : (q :: gacc) ++ (fp ++ L) = (q :: (gacc ++ fp)) ++ L := by simp
  rw [e1] at w F
  refine ⟨repL_mono _ (fun _ z => z) (fun a o m e => kn a o (fun z => by
    subst z
    rcases m with m | m
    · exact qz m
    · rcases List.mem_append.mp m with m | m
      · exact nq.1 m
      · exact qfp m) e) (repL_append ra (repL_one ry)), relL_mono (fun _ z => z) (fun a o m e => kn a o (fun z => by
    subst z
    rcases m with m | m
    · exact qz m
    · exact qL m) e) r, ⟨w.nd, w.dj, fun a z => ?_⟩, ⟨fun a o e n => ?_, F.zm, F.zs, F.ls⟩⟩
  · obtain ⟨o, e⟩ := w.tz a z
    by_cases h : a = q
    · subst h; exact absurd z qz
    · exact ⟨o, kn a o h e⟩
  · have e2 := F.keep a o e n
    by_cases h : a = q
    · subst h
      rcases F.ls a (by simp) with z | z
      · exact absurd z n
      · rw [z] at e; cases e
    · exact kn a o h e2
theorem te_lc {K : PySem.W.Frag} (hsub : ∀ i ∈ ts, i ∈ own.map (·.2)) : ∀ σ H Q, TEof K cA W (dLc (own.map (·.2)) src g t f) σ H Q →
    tLc (TIof K cA W src) (TGof K cA ts g) (TTof K cA WN t) (TEof K cA WN f) (own.map (·.2)) σ H Q := by
  generalize hvs : own.map (·.2) = vs at hsub ⊢
  rintro σ H Q ⟨Z, L, ρ, r, w, p⟩
  refine ⟨Z, L, ρ, r, w, ?_⟩
  unfold dLc at p
  cases hsrc : src ρ with
  | st => rw [hsrc] at p; exact p
  | ex e ρ1 => rw [hsrc] at p; exact p
  | ok ds ρ1 =>
    rw [hsrc] at p
    dsimp only at p
    split at p
    case isFalse => exact p.elim
    rename_i hcap
    intro J H1 Z1 L1 r1 w1 F1 hit q hq
    obtain ⟨Lw, sw, rw'⟩ := relL_wipe r1 vs
    have kn := keep_new (o := .lst []) hq
    -- where the turns stand
    refine ⟨fun i m Hi => m = ds.length - i ∧ i ≤ ds.length ∧ ∃ Zi Li ρi acc vacc gacc, RelL K cA Hi Zi ρi (wipe σ vs) Li ∧ Wf Hi Zi ((q :: gacc) ++ Li) ∧ Hi q = some (.lst vacc) ∧ RepL K cA Hi Zi acc vacc gacc ∧ acc.length ≤ i ∧ Fr H1 Z1 L1 Hi Zi ((q :: gacc) ++ Li) ∧ ρi = wipeE ρi vs ∧
      (match lcL vs g t f (ds.drop i) ρi with
        | .ok ys ρ2 => PostE K cA W σ H Z L Q (.ok (.lst true (acc ++ ys)) (backE ρ1 vs (wipeE ρ2 vs)))
        | _ => False), ⟨_, rfl, Nat.zero_le _, Z1, Lw, wipeE ρ1 vs, [], [], [], ?_, ?_, upd_same, ⟨rfl, rfl⟩, Nat.le_refl _, ?_, ?_, ?_⟩, ?_⟩
    · exact relL_mono (fun _ z => z) (fun a o _ e => kn a o e) rw'
    · exact wf_new (w1.less sw) hq (fun a m => relL_trk rw' a m)
    · exact (fr_new hq).less fun x m => by
        rcases List.mem_cons.mp m with z | z
        · simp [z]
        · simp [sw.subset (by simpa using z)]
    · -- wiped twice
      have key : ∀ (vs : List Nat) (ρ : Env), (∀ i ∈ vs, i < ρ.length → ρ[i]? = some none) → wipeE ρ vs = ρ := by
        intro vs
        induction vs with
        | nil => intro ρ _; rfl
        | cons v vs ih =>
          intro ρ h
          unfold wipeE
          rw [ih ρ fun i m => h i (by simp [m])]
          apply List.ext_getElem?
          intro j
          by_cases e : v = j
          · subst e
            by_cases hl : v < ρ.length
            · rw [List.getElem?_set_self hl, h v (by simp) hl]
            · rw [List.getElem?_eq_none (by rw [List.length_set]; omega), List.getElem?_eq_none (by omega)]
          · rw [List.getElem?_set_ne e]
      refine (key vs (wipeE ρ1 vs) fun i m hl => ?_).symm
      cases hx : (wipeE ρ1 vs)[i]? with
      | none =>
        have := List.getElem?_eq_none_iff.mp hx
        omega
      | some o =>
        cases o with
        | none => rfl
        | some d => exact absurd m (wipeE_some hx).1
    · rw [List.drop_zero]
      cases hl : lcL vs g t f ds (wipeE ρ1 vs) with
      | ok ys ρ2 => rw [hl] at p; exact p
      | ex e ρ2 => rw [hl] at p; exact p
      | st => rw [hl] at p; exact p
    rintro i m Hi ⟨rfl, hil, Zi, Li, ρi, acc, vacc, gacc, ri, wi, hqi, ra, hacc, Fi, hwi, qi⟩
    have wiL : Wf Hi Zi Li := wi.less (List.sublist_append_right _ _)
    -- the list waits
    have rq : RepD K cA Hi Zi (.lst true acc) (.ref q) (q :: gacc) := ⟨q, vacc, gacc, rfl, ra, ⟨hqi, fun z => nomatch z⟩, rfl, fun z => nomatch z⟩
    have FiL : Fr H1 Z1 L1 Hi Zi Li := Fi.less fun x m => by simp [m]
    obtain ⟨tn, stp⟩ := it_turn hit w1 FiL ri wiL i
    cases hd : ds[i]? with
    | none =>
      left
      have hl : ds.length ≤ i := List.getElem?_eq_none_iff.mp hd
      refine ⟨stp hl, ?_⟩
      rw [List.drop_eq_nil_of_le hl] at qi
      have qi : PostE K cA W σ H Z L Q (.ok (.lst true (acc ++ [])) (backE ρ1 vs (wipeE ρi vs))) := qi
      rw [List.append_nil] at qi
      have ri' := ri
      rw [hwi] at ri'
      obtain ⟨L', hs', rb⟩ := relL_back r1 Fi.zm (fun a o z e => Fi.keep a o e fun m => w1.dj a m z) vs ri'
      have hsub2 : ((q :: gacc) ++ L').Sublist ((q :: gacc) ++ Li) := (List.Sublist.refl _).append hs'
      exact qi (.ref q) Hi Zi L' (q :: gacc) rb (wi.less hsub2) rq (F1.trans (Fi.less fun x m => hsub2.subset m))
    | some d =>
      right
      obtain ⟨go, yl⟩ := tn d hd
      have hlt : i < ds.length := (List.getElem?_eq_some_iff.mp hd).1
      rw [drop_cons' hd] at qi
      unfold lcL at qi
      refine ⟨go, fun H' => ∃ Z' L' ρ' acc' vacc' gacc', RelL K cA H' Z' ρ' (wipe σ vs) L' ∧ Wf H' Z' ((q :: gacc') ++ L') ∧ H' q = some (.lst vacc') ∧ RepL K cA H' Z' acc' vacc' gacc' ∧ acc'.length ≤ i + 1 ∧ Fr H1 Z1 L1 H' Z' ((q :: gacc') ++ L') ∧ ρ' = wipeE ρ' vs ∧
        (match lcL vs g t f (ds.drop (i + 1)) ρ' with
          | .ok ys ρ2 => PostE K cA W σ H Z L Q (.ok (.lst true (acc' ++ ys)) (backE ρ1 vs (wipeE ρ2 vs)))
          | _ => False), ?_, fun x H' y => ?_⟩
      · rintro H' ⟨Z', L', ρ', acc', vacc', gacc', a1, a2, a3, a4, a5, a6, a7, a8⟩
        exact ⟨ds.length - (i + 1), by omega, rfl, hlt, Z', L', ρ', acc', vacc', gacc', a1, a2, a3, a4, a5, a6, a7, a8⟩
      · obtain ⟨Z2, r2, w2, F2, h2⟩ := yl x H' y
        cases hgd : g d ρi with
        | none => rw [hgd] at qi; exact qi.elim
        | some ρa =>
          rw [hgd] at qi
          refine ⟨d, Z2, Li, ρi, ρa, r2, w2, h2, hgd, fun σa Ha Za La ra' wa Fa ba => ?_⟩
          have hwσ := wipe_but hsub ba
          refine ⟨hwσ, ?_⟩
          have FA : Fr Hi Zi Li Ha Za La := F2.trans Fa
          refine ⟨Za, La, ρa, ra', wa, ?_⟩
          dsimp only at qi
          have idem : ∀ ρ : Env, wipeE ρ vs = wipeE (wipeE ρ vs) vs := by
            intro ρ
            have key : ∀ (us : List Nat) (ρ : Env), (∀ i ∈ us, i < ρ.length → ρ[i]? = some none) → wipeE ρ us = ρ := by
              intro us
              induction us with
              | nil => intro ρ _; rfl
              | cons v us ih =>
                intro ρ h
                unfold wipeE
                rw [ih ρ fun i m => h i (by simp [m])]
                apply List.ext_getElem?
                intro j
                by_cases e : v = j
                · subst e
                  by_cases hl : v < ρ.length
                  · rw [List.getElem?_set_self hl, h v (by simp) hl]
                  · rw [List.getElem?_eq_none (by rw [List.length_set]; omega), List.getElem?_eq_none (by omega)]
                · rw [List.getElem?_set_ne e]
            refine (key vs (wipeE ρ vs) fun i m hl => ?_).symm
            cases hx : (wipeE ρ vs)[i]? with
            | none =>
              have := List.getElem?_eq_none_iff.mp hx
              omega
            | some o =>
              cases o with
              | none => rfl
              | some d => exact absurd m (wipeE_some hx).1
          cases ht : t ρa with
          | st => rw [ht] at qi; exact qi
          | ex e ρ2 => rw [ht] at qi; exact qi.elim
          | ok bb ρ2 =>
            rw [ht] at qi
            intro Hb Zb Lb rb wb Fb
            have FB : Fr Hi Zi Li Hb Zb Lb := FA.trans Fb
            cases bb with
            | false =>
              rw [if_neg Bool.false_ne_true]
              obtain ⟨Lw2, sw2, rw2⟩ := relL_wipe rb vs
              rw [hwσ] at rw2
              have wB := wi.wait (repD_trk _ rq) FB wb
              have rqB := repD_wait wi rq FB
              have sub3 : ((q :: gacc) ++ Lw2).Sublist ((q :: gacc) ++ Lb) := (List.Sublist.refl _).append sw2
              obtain ⟨p0, vs0, g0, e0, e1, e2, e3, _⟩ := rep_lst rqB
              cases e0
              rw [if_pos rfl] at e3
              cases e3
              exact ⟨Zb, Lw2, wipeE ρ2 vs, acc, vs0, gacc, rw2, wB.less sub3, e1, e2, by omega, (Fi.wait wi FB).less fun x m => sub3.subset m, idem ρ2, qi⟩
            | true =>
              rw [if_pos rfl]
              dsimp only at qi
              refine ⟨Zb, Lb, ρ2, rb, wb, ?_⟩
              cases hfv : f ρ2 with
              | st => rw [hfv] at qi; exact qi
              | ex e ρ3 => rw [hfv] at qi; exact qi.elim
              | ok yv ρ3 =>
                rw [hfv] at qi
                intro v Hc Zc Lc fpc rc wc hc Fc
                dsimp only at qi
                have FC : Fr Hi Zi Li Hc Zc (fpc ++ Lc) := FB.trans Fc
                have wC := wi.wait (repD_trk _ rq) FC wc
                have rqC := repD_wait wi rq FC
                have FC1 := Fi.wait wi FC
                obtain ⟨p0, vs0, g0, e0, e1, e2, e3, _⟩ := rep_lst rqC
                cases e0
                rw [if_pos rfl] at e3
                cases e3
                have len := repL_len e2
                refine ⟨vs0, e1, cap_lt (by omega), ?_⟩
                obtain ⟨b1, b2, b3, b4⟩ := acc_put wC e1 e2 hc rc FC1
                obtain ⟨Lw2, sw2, rw2⟩ := relL_wipe b2 vs
                rw [hwσ] at rw2
                have sub3 : ((q :: (gacc ++ fpc)) ++ Lw2).Sublist ((q :: (gacc ++ fpc)) ++ Lc) := (List.Sublist.refl _).append sw2
                refine ⟨Zc, Lw2, wipeE ρ3 vs, acc ++ [yv], vs0 ++ [v], gacc ++ fpc, rw2, b3.less sub3, upd_same, b1, by simp; omega, b4.less fun x m => sub3.subset m, idem ρ3, ?_⟩
                cases hrest : lcL vs g t f (ds.drop (i + 1)) (wipeE ρ3 vs) with
                | st => rw [hrest] at qi; exact qi
                | ex e ρ4 => rw [hrest] at qi; exact qi
                | ok ys ρ4 =>
                  rw [hrest] at qi
                  show PostE K cA W σ H Z L Q (.ok (.lst true ((acc ++ [yv]) ++ ys)) _)
                  rw [List.append_assoc]
                  exact qi
theorem de_lc (hc : X.calm = true) (hN : X.N.Nodup) (hi : DI X cA W src tg iter) (ok : BlkOk X.N X.env.scope scope own) (hsub : ∀ i ∈ ts, i ∈ own.map (·.2))
    (hg : ∀ (s : Shared) (H : Hp) (C : Addr) (cl : List (Str × Addr)) (fp : List Addr), DG (X.blk s H scope (compEnvC scope cl C X.env) fp) cA ts g tg)
    (ht : ∀ (s : Shared) (H : Hp) (C : Addr) (cl : List (Str × Addr)) (fp : List Addr), DTs (X.blk s H scope (compEnvC scope cl C X.env) fp) cA WN t ifs)
    (he : ∀ (s : Shared) (H : Hp) (C : Addr) (cl : List (Str × Addr)) (fp : List Addr), DE (X.blk s H scope (compEnvC scope cl C X.env) fp) cA WN f elt) (hs : ∀ x, foldedSetIterable iter X.env x = pure x := by intro _; kernel_rfl) :
    DE X cA W (dLc (own.map (·.2)) src g t f) (.ListComp elt [⟨tg, iter, ifs, 0⟩] scope pos) := PE.imp (pe_lc (g := TGof X.K cA ts g) (tt := TTof X.K cA WN t) (te := TEof X.K cA WN f) hc hN hi ok hg ht he hs) (te_lc hsub)
theorem ds_setLc {k : Option Nat} {i : Nat} {y : Str} {py spos : Pos} (hc : X.calm = true) (hN : X.N.Nodup) (hy : X.N[i]? = some y) (hyl : X.env.scope.names.lookup y = some .local)
    (hsw : swapsWith (.ListComp elt [⟨tg, iter, ifs, 0⟩] scope pos) (some (.Name y py)) spos.line X.env = pure true) (hi : DI X cA W src tg iter) (ok : BlkOk X.N X.env.scope scope own) (hsub : ∀ i ∈ ts, i ∈ own.map (·.2))
    (hg : ∀ (s : Shared) (H : Hp) (C : Addr) (cl : List (Str × Addr)) (fp : List Addr), DG (X.blk s H scope (compEnvC scope cl C X.env) fp) cA ts g tg)
    (ht : ∀ (s : Shared) (H : Hp) (C : Addr) (cl : List (Str × Addr)) (fp : List Addr), DTs (X.blk s H scope (compEnvC scope cl C X.env) fp) cA WN t ifs)
    (he : ∀ (s : Shared) (H : Hp) (C : Addr) (cl : List (Str × Addr)) (fp : List Addr), DE (X.blk s H scope (compEnvC scope cl C X.env) fp) cA WN f elt) (hk : k ≠ some i := by decide) (hs : ∀ x, foldedSetIterable iter X.env x = pure x := by intro _; kernel_rfl) :
    DS X cA W k (dBind (dLc (own.map (·.2)) src g t f) (stSet i)) (.Assign [.Name y py] (.ListComp elt [⟨tg, iter, ifs, 0⟩] scope pos) spos) :=
  ds_of (L2.ps_setLc (g := TGof X.K cA ts g) (tt := TTof X.K cA WN t) (te := TEof X.K cA WN f) hc hN hy hyl hsw hi ok hg ht he hs) fun T σ H Z L ρ r w p => te_lc hsub σ H _ (bind_te r w p fun d ρ1 v H1 Z1 L1 fp hd r1 w1 h1 F1 p => put_slot hk r1 w1 h1 F1 p)
end
theorem ds_frz {X : Cx} {cA : Str → Addr} {W : WX} {k : Option Nat} {f : Env → Fl} {st : Stmt} (i : Nat) (h : DS X cA W k f st) (hk : k ≠ some i := by decide) : DS X cA W k (dSeq f fun ρ => match ρ[i]? with | some (some d) => .nx (ρ.set i (some (frz d))) | _ => .nx ρ) st :=
  ds_of h fun T σ H Z L ρ r w p => ⟨Z, L, ρ, r, w, by
    unfold dSeq at p
    cases hf : f ρ with
    | st => rw [hf] at p; exact p
    | bk ρ1 => rw [hf] at p; exact p
    | ct ρ1 => rw [hf] at p; exact p
    | rt d ρ1 => rw [hf] at p; exact p
    | ex e ρ1 => rw [hf] at p; exact p
    | nx ρ1 =>
      rw [hf] at p
      intro σ1 H1 Z1 L1 r1 w1 F1 q1
      dsimp only at p
      split at p
      · rename_i d hd
        obtain ⟨v, f0, f1, f2, hv, hr, ef, put, _⟩ := relL_at r1 hd
        have pm : L1.Perm (f1 ++ (f0 ++ f2)) := by
          rw [ef, List.append_assoc]
          exact (List.perm_append_comm_assoc f0 f1 f2)
        have q := put (H' := H1) (Z' := ZU Z1 f1) zu_sub (fun _ _ _ e => e) (repD_zu hr)
        rw [set_same hv, List.append_nil] at q
        exact p σ1 H1 _ _ q ((w1.perm pm).freeze (repD_trk d hr)) (Fr.freeze (F1.less fun x m => pm.mem_iff.mpr m)) q1
      · exact p σ1 H1 Z1 L1 r1 w1 F1 q1⟩
end DL
namespace DL
open PySem L2
section
variable {K : PySem.W.Frag} {cA : Str → Addr} {H : Hp} {Z : ZS}
end
def gFld (f : Str) : D → Option D
  | .n (.ins _ fs) _ xs => (match (fs.zip xs).lookup f with
    | some d => if isF d = true then some d else none
    | none => none)
  | _ => none
section
variable {X : Cx} {cA : Str → Addr} {W : WX} {fa : Env → Out D} {e o : Expr} {pos : Pos}
def stFld (C f : Str) (i : Nat) (d : D) (ρ : Env) : Fl := match ρ[i]? with
  | some (some (.n (.ins C' fs) true xs)) => if C' = C ∧ f ∉ fs ∧ xs.length < 900 then .nx (ρ.set i (some (.n (.ins C (fs ++ [f])) true (xs ++ [d])))) else .st
  | _ => .st
end
def dMeth (C m : Str) (n : Nat) (F : List D → FR) (fa : Env → Out D) (g : Env → Out (List Ag)) : Env → Out D := fun ρ => match fa ρ with
  | .ok (.n (.ins C' fs) false xs) ρ1 => if C' = C ∧ m ∉ fs ∧ isFL xs = true then dCall n (fun ds => F (.n (.ins C fs) false xs :: ds)) g ρ1 else .st
  | .ok _ _ => .st
  | .ex e ρ1 => .ex e ρ1
  | .st => .st
def dMake (C : Str) (n : Nat) (F : List D → FR) (g : Env → Out (List Ag)) : Env → Out D := fun ρ => match g ρ with
  | .ok ds ρ1 => (match agL ds with
    | some xs => if xs.length = n then (match F (.n (.ins C []) true [] :: frzL xs) with
      | .rt (.a .non) (some d) => .ok d ρ1
      | .ex e _ => .ex e ρ1
      | _ => .st) else .st
    | none => .st)
  | .ex e ρ1 => .ex e ρ1
  | .st => .st
section
variable {X : Cx} {cA : Str → Addr} {W : WX} {fa : Env → Out D} {g : Env → Out (List Ag)} {k n : Nat} {kio : Option Nat} {f : Addr} {fd : FuncData} {ps : List Str} {F : List D → FR} {x m : Str} {p pos apos : Pos} {o e : Expr} {es : List Expr}
end
def dPopAt (i : Nat) (fj : Env → Out D) : Env → Out D := fun ρ => match ρ[i]? with
  | some (some (.n .lst true _)) => (match fj ρ with
    | .ok (.a (.int z)) ρ1 => (match ρ1[i]? with
      | some (some (.n .lst true xs)) => if -1000000 ≤ z ∧ z ≤ 1000000 then (match seqIndex? z xs.length with
        | some j => (match xs[j]? with
          | some d => .ok d (ρ1.set i (some (.lst true (xs.eraseIdx j))))
          | none => .st)
        | none => .st) else .st
      | _ => .st)
    | .ok _ _ => .st
    | .ex e ρ1 => .ex e ρ1
    | .st => .st)
  | _ => .st
section
variable {X : Cx} {cA : Str → Addr} {W : WX} {f : Env → Out D} {e o : Expr} {apos cpos : Pos}
theorem de_popAt {i : Nat} (ho : PE X o (tVar i)) (he : DE X cA W f e)
    (hbase : attributeBase o "pop" X.env (eval o X.env) = eval o X.env := by kernel_rfl)
    (hfew : ((backTo cpos (starEach [e] X.env)).all (fun x => !x.1) && (backToKw cpos (keywordEach [] X.env)).all (fun x => x.1.isSome)
      && decide ([e].length + ([] : List Keyword).length + (if ([] : List Keyword).isEmpty then 0 else 1) < 30)) = true := by kernel_rfl)
    (hline : (apos.endLine == cpos.line) = true := by kernel_rfl) (hs : starEach [e] X.env = (false, eval e X.env) :: starEach [] X.env := by kernel_rfl) : DE X cA W (dPopAt i f) (.Call (.Attribute o "pop" apos) [e] [] cpos) :=
  de_of (pe_bm PySem.F.plainAttrs_list PySem.F.slot_list_pop PySem.F.type_list_pop mt_popAt ho (pa_cons he pa_nil hs) hbase hfew hline hs rfl) fun σ H Q Z L ρ r w p => by
    unfold dPopAt at p
    split at p
    · rename_i zs hz
      obtain ⟨p0, vs0, g0, f0, f2, hv, e0, _, _, _⟩ := relL_own r hz
      refine ⟨_, hv, .inl ⟨rfl, _, SqL.of e0⟩, ?_⟩
      refine post_int (f := f) r w ?_
      cases hf : f ρ with
      | st => rw [hf] at p; exact p
      | ex e ρ1 => rw [hf] at p; exact p
      | ok d1 ρ1 =>
        rw [hf] at p
        cases d1 with
        | n k o xs => exact p.elim
        | a x =>
          cases x with
          | non => exact p.elim
          | bl b => exact p.elim
          | str s => exact p.elim
          | int z =>
            intro H1 Z1 L1 r1 w1 F1
            dsimp only at p
            split at p
            · rename_i xs hx
              split at p
              · rename_i hb
                split at p
                · rename_i j hj
                  split at p
                  · rename_i d hd
                    obtain ⟨q, vs, g, f0', f2', hσ, hp, rx, eL, put⟩ := relL_own r1 hx
                    rw [hv] at hσ
                    cases hσ
                    have len := repL_len rx
                    obtain ⟨v, h0, hfp, h2, hvj, hrd, eg, rer⟩ := repL_erase rx hd
                    show rPopAt (.ref p0) [.int z] H1 Q
                    refine ⟨p0, vs, z, j, v, rfl, rfl, hp, by omega, by omega, by rw [len]; exact hj, hvj, ?_⟩
                    have nd := w1.nd
                    rw [eL, eg] at nd
                    have nd1 := List.nodup_append.mp nd
                    have nd2 := List.nodup_append.mp nd1.1
                    have nd3 := List.nodup_cons.mp nd2.2.1
                    have sub : (h0 ++ h2).Sublist g := by
                      rw [eg, List.append_assoc]
                      exact (List.Sublist.refl h0).append (List.sublist_append_right _ _)
                    have ndg : g.Nodup := by rw [eg]; exact nd3.2
                    have w1' : Wf H1 Z1 (([] : FP) ++ L1) := w1
                    have F1' : Fr H Z L H1 Z1 (([] : FP) ++ L1) := F1
                    obtain ⟨a, b, c⟩ := own_write w1' r1 hp eL hv put rer (fun a m => .inl (sub.subset m)) (ndg.sublist sub) F1'
                    -- the item taken out is in hand
                    have pit : p0 ∉ hfp := fun m => nd3.1 (by simp [m])
                    have kn : ∀ a o, a ≠ p0 → H1 a = some o → upd H1 p0 (.lst (vs.eraseIdx j)) a = some o := fun a o n e => by rw [upd_ne n]; exact e
                    have pz : ¬ Z1 p0 := w1.dj p0 (by rw [eL]; simp)
                    have hrd' : RepD X.K cA (upd H1 p0 (.lst (vs.eraseIdx j))) Z1 d v hfp := repD_mono d (fun _ z => z) (fun a o m e => kn a o (fun z => by
                      subst z
                      exact m.elim pz pit) e) hrd
                    have pm : (hfp ++ (f0' ++ (p0 :: (h0 ++ h2)) ++ f2')).Perm (f0' ++ (p0 :: (h0 ++ hfp ++ h2)) ++ f2') := by
                      have a1 : f0' ++ (p0 :: (h0 ++ hfp ++ h2)) ++ f2' = (f0' ++ (p0 :: h0)) ++ (hfp ++ (h2 ++ f2')) := by simp
                      have a2 : hfp ++ (f0' ++ (p0 :: (h0 ++ h2)) ++ f2') = hfp ++ ((f0' ++ (p0 :: h0)) ++ (h2 ++ f2')) := by simp
                      rw [a1, a2]
                      exact List.perm_append_comm_assoc hfp (f0' ++ (p0 :: h0)) (h2 ++ f2')
                    have wfin : Wf (upd H1 p0 (.lst (vs.eraseIdx j))) Z1 (hfp ++ (f0' ++ (p0 :: (h0 ++ h2)) ++ f2')) := by
                      refine ⟨pm.nodup_iff.mpr nd, fun a m => w1.dj a (by rw [eL, eg]; exact pm.mem_iff.mp m), b.tz⟩
                    exact p v _ Z1 _ hfp a wfin hrd' ⟨c.keep, c.zm, c.zs, fun a m => F1.ls a (by rw [eL, eg]; exact pm.mem_iff.mp m)⟩
                  · exact p.elim
                · exact p.elim
              · exact p.elim
            · exact p.elim
    · exact p.elim
end
end DL
namespace DL
open PySem L2
def tyN : D → Option String
  | .a .non => some "NoneType"
  | .a (.bl _) => some "bool"
  | .a (.int _) => some "int"
  | .a (.str _) => some "str"
  | .n .tup _ _ => some "tuple"
  | .n .lst _ _ => some "list"
  | .n (.dct _) _ _ => some "dict"
  | _ => none
def isiT (t T : String) : Bool := t == T || (t == "bool" && T == "int")
def tyAll : List String := ["NoneType", "bool", "int", "str", "tuple", "list", "dict"]
theorem kit_tab : ∀ t ∈ tyAll, ∀ T ∈ tyAll, kitB t T = some (isiT t T) := by decide +kernel
section
variable {K : PySem.W.Frag} {cA : Str → Addr} {H : Hp} {Z : ZS}
theorem tyN_ok {d : D} {t : String} {v : V} {fp : FP} (e : tyN d = some t) (h : RepD K cA H Z d v fp) : t ∈ tyAll ∧ TyX K H v (.type t) := by
  cases d with
  | a x =>
    obtain ⟨e1, _⟩ := h
    subst e1
    cases x with
    | non => cases e; exact ⟨by decide, .base .non⟩
    | bl b => cases e; exact ⟨by decide, .base (.bl b)⟩
    | int i => cases e; exact ⟨by decide, .base (.int i)⟩
    | str s => cases e; exact ⟨by decide, .base (.str s)⟩
  | n k o xs =>
    cases k with
    | tup =>
      cases e
      obtain ⟨p, vs, rfl, e1, r1, _, _, c⟩ := rep_tup h
      refine ⟨by decide, ?_⟩
      rcases c with ⟨_, r | ⟨o, r⟩⟩ | ⟨o, its, n, hk, hc, _⟩
      · exact .base (.tup r)
      · exact .fTuple r
      · exact .kTuple hk hc
    | lst =>
      cases e
      obtain ⟨p, vs, g, rfl, e1, _⟩ := rep_lst h
      exact ⟨by decide, .base (.lst e1)⟩
    | scr => cases e
    | dct ks =>
      cases e
      obtain ⟨p, vs, g, rfl, hl, hc, _⟩ := h
      exact ⟨by decide, .base (.dK hc.1)⟩
    | ins C fs => cases e
end
def gIsi (T : String) : D → Option D := fun d => match tyN d with
  | some t => some (.bl (isiT t T))
  | none => none
theorem vu_isi {K : PySem.W.Frag} {cA : Str → Addr} {T : String} (hT : T ∈ tyAll) : VU K cA (fun v H Q => rIsi K [v, .ty T] H Q) (gIsi T) := by
  refine ⟨@fun d1 d v1 H Z f1 Q h1 w hg q => ?_⟩
  unfold gIsi at hg
  split at hg
  · rename_i t e
    cases hg
    obtain ⟨ht, ty⟩ := tyN_ok e h1
    exact ⟨_, _, _, _, _, rfl, .ty T, ty, kit_ty (kit_tab t ht T hT), q _ H Z [] ⟨rfl, rfl⟩ w Fr.refl⟩
  · cases hg
section
variable {X : Cx} {cA : Str → Addr} {W : WX} {fa fb : Env → Out D} {a b : Expr} {pos : Pos}
theorem de_isi {x : Str} {T : String} {p q : Pos} (hg : Gl X "isinstance") (hm : X.mg "isinstance" = none) (hg2 : Gl X x) (hm2 : X.mg x = none) (hv2 : bootBuiltins x = some (.type T)) (hT : T ∈ tyAll) (ha : DP X cA W fa a)
    (hn2 : x ≠ "__name__" := by decide +kernel) (hd2 : (x == ("__debug__" : Str)) = false := by kernel_rfl)
    (hs1 : starEach [a, .Name x q] X.env = (false, eval a X.env) :: starEach [.Name x q] X.env := by kernel_rfl) (hs2 : starEach [.Name x q] X.env = (false, eval (.Name x q) X.env) :: starEach [] X.env := by kernel_rfl) (hpl : (backTo pos (starEach [.Name x q] X.env)).any (·.1) = false := by kernel_rfl) :
    DE X cA W (dU (gIsi T) fa) (.Call (.Name "isinstance" p) [a, .Name x q] [] pos) :=
  PE.imp (pe_callB call_isi hg hm PyProof.Rows.boot_isinstance (pa_cons ha (pa_cons (pe_bltn (v := .ty T) hg2 hm2 hv2 rfl hn2 hd2) pa_nil hs2) hs1) (by decide) (by decide) hs1 hpl) (te_un (vu_isi hT))
abbrev gBits : D → Option D := gI fun i => (Builtin.Int.intBits i : Nat)
theorem de_bits {apos : Pos} (ha : DE X cA W fa a) (hbase : attributeBase a "bit_length" X.env (eval a X.env) = eval a X.env := by kernel_rfl) (hline : (apos.endLine == pos.line) = true := by kernel_rfl) : DE X cA W (dU gBits fa) (.Call (.Attribute a "bit_length" apos) [] [] pos) :=
  PE.imp (pe_bits (dp_de ha) hbase hline) (te_un (vu_i (f := fun i => (Builtin.Int.intBits i : Nat))))
end
theorem gl_of {X : Cx} {x : Str} (h : X.env.scope.names.lookup x = some .globalImplicit := by kernel_rfl) : Gl X x := h
theorem pvl {X : Cx} (i : Nat) {x : Str} {pos : Pos} (hN : X.N[i]? = some x := by kernel_rfl) (hv : X.env.scope.names.lookup x = some .local := by kernel_rfl) (hd : (x == ("__debug__" : Str)) = false := by kernel_rfl) (hc : (x == ("__classdict__" : Str)) = false := by kernel_rfl) : PE X (.Name x pos) (tVar i) := pe_var hN (.inl hv) hd hc
theorem pvc {X : Cx} (i : Nat) {x : Str} {pos : Pos} (hN : X.N[i]? = some x := by kernel_rfl) (hv : X.env.scope.names.lookup x = some .cell := by kernel_rfl) (hd : (x == ("__debug__" : Str)) = false := by kernel_rfl) (hc : (x == ("__classdict__" : Str)) = false := by kernel_rfl) : PE X (.Name x pos) (tVar i) := pe_var hN (.inr (.inl hv)) hd hc
def dDp (f : Env → Out D) : Env → Out D := fun ρ => match f ρ with
  | .ok d ρ1 => if isF d = true then .ok d ρ1 else .st
  | .ex e ρ1 => .ex e ρ1
  | .st => .st
def dFrz (i : Nat) (f : Env → Fl) : Env → Fl := dSeq f fun ρ => match ρ[i]? with | some (some d) => .nx (ρ.set i (some (frz d))) | _ => .nx ρ
theorem ds_frzN {X : Cx} {cA : Str → Addr} {W : WX} {k : Option Nat} {f : Env → Fl} {st : Stmt} (i : Nat) (h : DS X cA W k f st) (hk : k ≠ some i := by decide) : DS X cA W k (dFrz i f) st := ds_frz i h hk
theorem room_u1 {k : Nat} {A : Around} (r : Room k A) : A.units + 65 < cLine := by have := r.un; omega
structure OkC (P : Program) (w : World) (K : PySem.W.Frag) (mg : Str → Option Value) (base : Heap) (f : Addr) (ps : List Str) (k : Nat) (sp : Sp) : Prop where
  ex : ∃ fd, FnOk P w K mg base (L2.CX P w) k f fd ps sp ∧ Binds K fd ps []
section
variable {P : Program} {w : World} {K : PySem.W.Frag} {cA : Str → Addr} {mg : Str → Option Value} {base : Heap}
theorem fn_okF0 {x qual : Str} {params : Arguments} {stb : List Stmt} {scope : Scope} {f : Addr} {fd : FuncData} {N ps : List Str} {k : Nat} {kio : Option Nat} {body : Env → Fl} (F : FunD K x qual params stb scope [] [] f fd) (S : FnScope N ps scope)
    (hb : ∀ (cdv : Value) (A : Around) (outer : List PySem.Env) (s : Shared) (H : Hp) (E : XK), Room k (A.deeper (PyProof.Rows.envOfC qual scope s.heap.objs.size f cdv)) →
      DSs (cxOf (L2.CX P w) P w K mg base N qual scope f cdv A outer s H E) cA (fun cls d _ H' => E cls d H') kio body stb) :
    FnOk P w K mg base (L2.CX P w) (k + 1) f fd ps (spF K cA ps.length kio (fnD N.length kio body)) := by
  refine F.ok S (fun vs H Q E h => h.1) fun cdv A outer s H vs Q E hr h => ?_
  obtain ⟨hl, ds, Z, L, r, wf, p⟩ := h
  refine ⟨_, hb cdv A outer s H E hr, ?_⟩
  have e : N.length - ds.length = N.length - vs.length := by rw [repL_len r]
  refine ⟨Z, L, ds.map some ++ List.replicate (N.length - vs.length) none, relL_start r, wf, ?_⟩
  unfold fnD at p
  rw [e] at p
  cases hbo : body (ds.map some ++ List.replicate (N.length - vs.length) none) with
  | st => rw [hbo] at p; exact p
  | bk ρ => rw [hbo] at p; exact p.elim
  | ct ρ => rw [hbo] at p; exact p.elim
  | nx ρ =>
    rw [hbo] at p
    intro σ' H' Z' L' r' w' F' pn
    obtain ⟨g, hg, ri⟩ := io_end (σ0 := σ') r' pn
    exact p _ H' Z' [] g ri ⟨rfl, rfl⟩ (w'.less hg) (F'.less fun x m => hg.subset m)
  | rt d ρ =>
    rw [hbo] at p
    intro v σ' H' Z' L' fp r' w' h' F' pn
    obtain ⟨g, hg, ri⟩ := io_end (σ0 := σ') r' pn
    exact p v H' Z' fp g ri h' (wf_sub2 w' hg) (fr_sub2 F' hg)
  | ex e ρ =>
    rw [hbo] at p
    intro cls d σ' H' Z' L' r' w' x' F' pn
    obtain ⟨g, hg, ri⟩ := io_end (σ0 := σ') r' pn
    exact p cls d H' Z' g ri (w'.less hg) x' (F'.less fun x m => hg.subset m)
theorem fn_okD0 {x qual : Str} {params : Arguments} {stb : List Stmt} {scope : Scope} {f : Addr} {N ps : List Str} {k : Nat} {kio : Option Nat} {body : Env → Fl} (F : ∃ fd, FunD K x qual params stb scope [] [] f fd) (S : FnScope N ps scope)
    (hbi : ∀ (kV doc pm : Value) (an : Option Addr) (cdv ct : Value) (us : List Value), us.length = ps.length → bindArgs (PySem.W.fnOf x qual params stb scope .none kV doc pm an cdv ct) ⟨us, []⟩ = pure (ps.zip us))
    (hb : ∀ (cdv : Value) (A : Around) (outer : List PySem.Env) (s : Shared) (H : Hp) (E : XK), Room k (A.deeper (PyProof.Rows.envOfC qual scope s.heap.objs.size f cdv)) →
      DSs (cxOf (L2.CX P w) P w K mg base N qual scope f cdv A outer s H E) cA (fun cls d _ H' => E cls d H') kio body stb) :
    OkC P w K mg base f ps (k + 1) (spF K cA ps.length kio (fnD N.length kio body)) :=
  let ⟨fd, F⟩ := F
  ⟨fd, fn_okF0 F S hb, F.bindsN hbi⟩
theorem fn_okF {x qual : Str} {params : Arguments} {stb : List Stmt} {scope : Scope} {f : Addr} {fd : FuncData} {N ps : List Str} {k n m : Nat} {kio : Option Nat} {body : Env → Fl} (F : FunD K x qual params stb scope [] [] f fd) (S : FnScope N ps scope)
    (hb : ∀ (cdv : Value) (A : Around) (outer : List PySem.Env) (s : Shared) (H : Hp) (E : XK), Room k (A.deeper (PyProof.Rows.envOfC qual scope s.heap.objs.size f cdv)) →
      DSs (cxOf (L2.CX P w) P w K mg base N qual scope f cdv A outer s H E) cA (fun cls d _ H' => E cls d H') kio body stb) (hn : ps.length = n := by kernel_rfl) (hm : N.length = m := by kernel_rfl) :
    FnOk P w K mg base (L2.CX P w) (k + 1) f fd ps (spF K cA n kio (fnD m kio body)) := by
  subst hn hm
  exact fn_okF0 F S hb
theorem fn_okD {x qual : Str} {params : Arguments} {stb : List Stmt} {scope : Scope} {f : Addr} {N ps : List Str} {k n m : Nat} {kio : Option Nat} {body : Env → Fl} (F : ∃ fd, FunD K x qual params stb scope [] [] f fd) (S : FnScope N ps scope)
    (hbi : ∀ (kV doc pm : Value) (an : Option Addr) (cdv ct : Value) (us : List Value), us.length = ps.length → bindArgs (PySem.W.fnOf x qual params stb scope .none kV doc pm an cdv ct) ⟨us, []⟩ = pure (ps.zip us))
    (hb : ∀ (cdv : Value) (A : Around) (outer : List PySem.Env) (s : Shared) (H : Hp) (E : XK), Room k (A.deeper (PyProof.Rows.envOfC qual scope s.heap.objs.size f cdv)) →
      DSs (cxOf (L2.CX P w) P w K mg base N qual scope f cdv A outer s H E) cA (fun cls d _ H' => E cls d H') kio body stb) (hn : ps.length = n := by kernel_rfl) (hm : N.length = m := by kernel_rfl) :
    OkC P w K mg base f ps (k + 1) (spF K cA n kio (fnD m kio body)) := by
  subst hn hm
  exact fn_okD0 F S hbi hb
theorem takes_cx {N : List Str} {qual : Str} {scope : Scope} {f : Addr} {cdv : Value} {A : Around} {outer : List PySem.Env} {s : Shared} {H : Hp} {E : XK} : Takes (cxOf (L2.CX P w) P w K mg base N qual scope f cdv A outer s H E) (fun cls d _ H' => E cls d H') := takes_of rfl rfl rfl rfl
theorem passes_cx {N : List Str} {qual : Str} {scope : Scope} {f : Addr} {cdv : Value} {A : Around} {outer : List PySem.Env} {s : Shared} {H : Hp} {E : XK} :
    PassesOwn (model (cxOf (L2.CX P w) P w K mg base N qual scope f cdv A outer s H E).prog (cxOf (L2.CX P w) P w K mg base N qual scope f cdv A outer s H E).w) (cxOf (L2.CX P w) P w K mg base N qual scope f cdv A outer s H E).A (cxOf (L2.CX P w) P w K mg base N qual scope f cdv A outer s H E).env (cxOf (L2.CX P w) P w K mg base N qual scope f cdv A outer s H E).xe := passes_of rfl
end
section
variable {X : Cx} {cA : Str → Addr} {W : WX} {g : Env → Out (List Ag)} {fa : Env → Out D} {o e : Expr} {es : List Expr} {x m : Str} {f : Addr} {ps : List Str} {k n : Nat} {kio : Option Nat} {F : List D → FR} {p pos apos : Pos}
theorem de_callG (Fo : OkC X.prog X.w X.K X.mg X.base f ps k (spF X.K cA n kio F)) (hr : Room k X.A) (hg : Gl X x) (hm : X.mg x = some (.ref f) ∧ PySem.W.keepIn X.K (.ref f) = true) (tk : Takes X W) (ha : DA X cA W g (e :: es)) (hdb : (x == ("__debug__" : Str)) = false := by kernel_rfl)
    (he : starEach (e :: es) X.env = (false, eval e X.env) :: starEach es X.env := by kernel_rfl) (hpl : (backTo pos (starEach es X.env)).any (·.1) = false := by kernel_rfl) : DE X cA W (dCall n F g) (.Call (.Name x p) (e :: es) [] pos) :=
  let ⟨fd, Fo, hb⟩ := Fo.ex
  de_call Fo hr hg hm.1 hm.2 hb tk ha hdb he hpl
theorem de_callLG (Fo : OkC X.prog X.w X.K X.mg X.base f ps k (spF X.K cA n kio F)) (hr : Room k X.A) (hg : Gl X x) (hm : X.mg x = some (.ref f) ∧ PySem.W.keepIn X.K (.ref f) = true) (tk : Takes X W) (ha : DA X cA W g (e :: es)) (hdb : (x == ("__debug__" : Str)) = false := by kernel_rfl)
    (he : starEach (e :: es) X.env = (false, eval e X.env) :: starEach es X.env := by kernel_rfl) (hpl : (backTo pos (starEach es X.env)).any (·.1) = false := by kernel_rfl) : DE X cA W (dCallL n kio F g) (.Call (.Name x p) (e :: es) [] pos) :=
  let ⟨fd, Fo, hb⟩ := Fo.ex
  de_callL Fo hr hg hm.1 hm.2 hb tk ha hdb he hpl
end
theorem repL_ints {K : PySem.W.Frag} {cA : Str → Addr} {H : Hp} {Z : ZS} : ∀ ns : List Int, RepL K cA H Z (ns.map D.int) (ns.map V.int) []
  | [] => ⟨rfl, rfl⟩
  | n :: ns => ⟨.int n, ns.map V.int, [], [], rfl, ⟨rfl, rfl⟩, repL_ints ns, rfl⟩
theorem law_sp {K : PySem.W.Frag} {cA : Str → Addr} {F : List D → FR} {H : Hp} {a : Addr} {ns : List Int} (hS : SqL K H a (ns.map V.int)) (law : F [.scr (ns.map D.int)] = .rt (.bl true) none) : spF K cA 1 none F [.ref a] H (fun v _ => v = .bl true) fun _ _ _ => False := by
  have fin : ∀ Z : ZS, Wf H Z [] → Cont K cA H Z a (ns.map V.int) .scr false → spF K cA 1 none F [.ref a] H (fun v _ => v = .bl true) fun _ _ _ => False := by
    intro Z w c
    refine ⟨rfl, [.scr (ns.map D.int)], Z, [], ⟨.ref a, [], [], [], rfl, ⟨a, ns.map V.int, [], rfl, repL_ints ns, c, rfl, fun _ => rfl⟩, ⟨rfl, rfl⟩, rfl⟩, w, ?_⟩
    rw [law]
    intro v H' Z' fp g hi hd _ _
    exact hd.1
  rcases hS with r | r
  · refine fin (fun b => b = a) ⟨List.nodup_nil, fun a m => (nomatch m), fun b e => ?_⟩ ⟨rfl, .inl ⟨rfl, r⟩⟩
    subst e
    rcases r with r | ⟨o, r⟩
    · exact ⟨_, r⟩
    · exact ⟨_, r⟩
  · exact fin (fun _ => False) ⟨List.nodup_nil, fun a m => (nomatch m), fun b e => e.elim⟩ ⟨rfl, .inr r⟩
theorem law_end {l : PySem.W.OpenLaw} {k : Nat} {q : Program} {loose : List Str} {XP : (Str → Option Value) → Heap → Prop} {YP : World → Heap → Prop} {d : DefRec} {x : Str} {cA : PySem.W.Frag → Str → Addr} {F : List D → FR}
    (hn : l.most = some 63) (hdf : d.params.defaults = []) (hr : Room k callerA)
    (HF : ∀ (w : World) (mg : Str → Option Value) (fa : Addr) (h : Heap), YP w h → h.Ns mainGlobals mg → mg d.name = some (.ref fa) →
      ∃ (K : PySem.W.Frag) (fd : FuncData), K.In h ∧ (∀ (s : Shared) (u : Value), BindsTo s fd ⟨[u], []⟩ [(x, u)]) ∧
        ∀ base : Heap, K.In base → base.Ns mainGlobals mg → FnOk l.prog w K mg base (L2.CX l.prog w) k fa fd [x] (spF K (cA K) 1 none F))
    (law : ∀ ns : List Int, ns.length ≤ 63 → (∀ z ∈ ns, Builtin.Int.intBits z ≤ 1048576) → F [.scr (ns.map D.int)] = .rt (.bl true) none) :
    PySem.W.WalkO q loose XP YP l.row.toRowW d [] (fun f vs => PySem.call f vs) := by
  refine Att.attach_callB hn hdf fun w s₀ s₁ mg mb fa o pm cd doc a vs ns G Y ho hd hcd hmg hobj hints hlen hbits hg => ?_
  obtain ⟨K, fd, KX, hb, hF⟩ := HF w mg fa _ Y G.T.g hmg
  refine law_call KX G.T.g G.T.b G.T.builtins G.T.nolimit hg hobj hints (Nat.le_trans hlen (by rw [sizeLine_eq]; omega)) hr hF hb (fun H hO hS => law_sp hS (law ns hlen hbits)) fun H e s' z => ?_
  obtain ⟨_, _, _, _, _, _, _, _, _, _, _, _, z⟩ := z
  exact z.elim
end DL
namespace DL
open PySem L2
section
variable {X : Cx} {cA : Str → Addr} {W : WX} {g : Env → Out (List Ag)} {fa fb : Env → Out D} {a b o e : Expr} {es : List Expr} {x m : Str} {f : Addr} {ps : List Str} {k n : Nat} {kio : Option Nat} {F : List D → FR} {p pos apos : Pos}
end
def gLRng : D → Option D
  | .a (.int n) => if -4611686018427387904 ≤ n ∧ n ≤ 16777216 then some (.lst true (intL 0 n.toNat)) else none
  | _ => none
def gTRng : D → Option D
  | .a (.int n) => if -4611686018427387904 ≤ n ∧ n ≤ 16777216 then some (.tup (intL 0 n.toNat)) else none
  | _ => none
section
variable {X : Cx} {cA : Str → Addr} {W : WX} {fa fb : Env → Out D} {a b : Expr} {pos p p2 pos2 : Pos}
end
def blsOf : List D → Option (List Bool)
  | [] => some []
  | .a (.bl b) :: xs => (blsOf xs).map (b :: ·)
  | _ :: _ => none
def intsOf : List D → Option (List Int)
  | [] => some []
  | .a (.int i) :: xs => (intsOf xs).map (i :: ·)
  | _ :: _ => none
section
variable {K : PySem.W.Frag} {cA : Str → Addr} {H : Hp} {Z : ZS}
end
def gAll : D → Option D
  | .n .lst _ xs => (blsOf xs).map fun bs => .bl (bs.all id)
  | _ => none
def gMax1 : D → Option D
  | .n .lst _ xs => (match intsOf xs with
    | some ns => ns.max?.map D.int
    | none => none)
  | _ => none
def insI (a : Int) : List Int → List Int
  | [] => [a]
  | b :: bs => if a ≤ b then a :: b :: bs else b :: insI a bs
def sortI : List Int → List Int
  | [] => []
  | a :: as => insI a (sortI as)
section
variable {K : PySem.W.Frag} {cA : Str → Addr}
end
def gMin2 : D → D → Option D := gII (fun _ _ => true) fun i j => if j < i then j else i
theorem vop_call2 {K : PySem.W.Frag} {cA : Str → Addr} {f : Int → Int → Int} : VOp2 K cA (fun x y H Q => ∃ i j, [x, y] = [V.int i, V.int j] ∧ Q (V.int (f i j)) H) (gII (fun _ _ => true) f) := vop_at fun d1 d2 d hg => by
  unfold gII at hg
  split at hg
  · rename_i i j
    split at hg
    · cases hg
      exact ⟨_, _, _, rfl, rfl, rfl, fun H Q q => ⟨i, j, rfl, q⟩⟩
    · cases hg
  · cases hg
theorem boot_min : bootBuiltins "min" = some (.builtin "min") := by decide +kernel
section
variable {X : Cx} {cA : Str → Addr} {W : WX} {fa fb : Env → Out D} {a b : Expr} {p pos : Pos}
theorem de_min2 (hc : X.calm = true) (hg : Gl X "min") (hm : X.mg "min" = none) (ha : DE X cA W fa a) (hb : DE X cA W fb b) (hs1 : starEach [a, b] X.env = (false, eval a X.env) :: starEach [b] X.env := by kernel_rfl) (hs2 : starEach [b] X.env = (false, eval b X.env) :: starEach [] X.env := by kernel_rfl)
    (hpl : (backTo pos (starEach [b] X.env)).any (·.1) = false := by kernel_rfl) : DE X cA W (dOp2 gMin2 fa fb) (.Call (.Name "min" p) [a, b] [] pos) :=
  PE.imp (pe_callB (call_min2 hc) hg hm boot_min (pa_cons ha (pa_cons hb pa_nil hs2) hs1) (by decide) (by decide) hs1 hpl) (te_op2 vop_call2)
end
end DL
namespace DL
open PySem L2
section
variable {K : PySem.W.Frag} {cA : Str → Addr}
end
section
variable {X : Cx} {cA : Str → Addr} {W : WX} {src src1 : Env → Out (List D)} {ts ts1 : List Nat} {g g1 : D → Env → Option Env} {t t1 : Env → Out Bool} {f : Env → Out D} {iter iter1 tg tgB elt : Expr} {ifs ifs1 : List Expr} {scope : Scope} {own : List (Str × Nat)} {vs1 : List Nat} {pos : Pos}
end
end DL
namespace DL
open PySem L2 PyProof.Rows
section
variable {X : Cx} {cA : Str → Addr} {C : Str} {f : Addr} {fd : FuncData} {ps : List Str} {k : Nat} {kio : Option Nat} {F : List D → FR}
end
end DL
namespace HN2
open PySem PySem.Spec PyProof.Rows PySem.SeqAt
section
variable {prog : Program} {w : World} {A : Around} {E : Value → Shared → Prop} {s : Shared} {K : PySem.W.Frag} {x y C f : Addr} {ox : Obj} {od : Option Obj}
end
end HN2
namespace DL
open PySem L2 PyProof.Rows
section
variable {X : Cx} {cA : Str → Addr} {C : Str} {f : Addr} {ps : List Str} {k : Nat} {kio : Option Nat} {F : List D → FR}
structure NoNe (K : PySem.W.Frag) (C : Addr) : Prop where
  ne : PySem.W.findIn K (.ref C) "__ne__" = some (some (.builtin "object.__ne__"))
  ob : PySem.W.mroIn K C (.type "object") = some true
end
end DL
namespace DL
open PySem L2 PyProof.Rows
structure ClsX (K : PySem.W.Frag) (C : Addr) : Prop where
  ne : PySem.W.findIn K (.ref C) "__ne__" = some (some (.builtin "object.__ne__"))
  ob : PySem.W.mroIn K C (.type "object") = some true
  kc : PySem.W.findIn K (.ref C) "__class__" = some (some (.builtin "object.__class__"))
  kg : PySem.W.specialIn K (.builtin "object.__class__") "__get__" = some (some (.builtin "getset_descriptor.__get__"))
  kt : PySem.W.takesIn K (.builtin "object.__class__") = some true
def clsXB (K : PySem.W.Frag) (C : Addr) : Bool := decide (PySem.W.findIn K (.ref C) "__ne__" = some (some (.builtin "object.__ne__"))) && (decide (PySem.W.mroIn K C (.type "object") = some true) &&
  (decide (PySem.W.findIn K (.ref C) "__class__" = some (some (.builtin "object.__class__"))) && (decide (PySem.W.specialIn K (.builtin "object.__class__") "__get__" = some (some (.builtin "getset_descriptor.__get__"))) && decide (PySem.W.takesIn K (.builtin "object.__class__") = some true))))
theorem clsXB_ok {K : PySem.W.Frag} {C : Addr} (h : clsXB K C = true) : ClsX K C := by
  unfold clsXB at h
  simp only [Bool.and_eq_true, decide_eq_true_eq] at h
  exact ⟨h.1, h.2.1, h.2.2.1, h.2.2.2.1, h.2.2.2.2⟩
def obsX (fa : List He.Fa) (fn : List He.DefD) (xs : List Str) (K : PySem.W.Frag) : He.AlD × Bool := (He.obsD fa fn K, xs.all fun x => clsXB K (He.ga K x))
def SaysX (fa : List He.Fa) (fn : List He.DefD) (xs : List Str) (K : PySem.W.Frag) : Prop := obsX fa fn xs K = (He.valD fn, true)
theorem SaysX.d {fa : List He.Fa} {fn : List He.DefD} {xs : List Str} {K : PySem.W.Frag} (h : SaysX fa fn xs K) : He.SaysD fa fn K := congrArg (fun z : He.AlD × Bool => z.1) h
theorem SaysX.x {fa : List He.Fa} {fn : List He.DefD} {xs : List Str} {K : PySem.W.Frag} (h : SaysX fa fn xs K) (i : Nat) {x : Str} (e : xs[i]? = some x) : ClsX K (He.ga K x) := by
  have c : (xs.all fun x => clsXB K (He.ga K x)) = true := congrArg (fun z : He.AlD × Bool => z.2) h
  exact clsXB_ok (List.all_eq_true.mp c x (List.mem_of_getElem? e))
section
variable {X : Cx} {cA : Str → Addr} {W : WX} {fa fb : Env → Out D} {a b : Expr} {pos : Pos}
end
end DL
namespace DL
open PySem L2 PyProof.Rows NdefX
structure SupC (P : Program) (K : PySem.W.Frag) (C fI : Addr) (f : Str) : Prop where
  ox : OexC K C
  keep : PySem.W.keepIn K (.ref C) = true
  iC : PySem.W.findIn K (.ref C) "__init__" = some (some (.ref fI))
  tI : PySem.W.typeIn K (.ref fI) = some (.type "function")
  noF : PySem.W.findIn K (.ref C) f = some none
  cl : ∃ cd, PySem.W.clsIn K C = some cd ∧ PySem.W.mroIn K C (.ref C) = some true
  su : PySem.W.ks_superIn K C C "__init__" = some (some (.builtin "ValueError.__init__"))
  ve : PySem.W.subIn K (.ref C) (.type "ValueError") = some true
  op : PySem.W.nsIn K cStatics "thirdparty.any" = some none
  top : (P.main.scope.names.lookup ("super" : Str)).isSome = false
structure SupF (P : Program) (K : PySem.W.Frag) (C fI : Addr) (fd : FuncData) (F : NF) : Prop where
  ex : ∃ (oc : Value) (od : Option Addr) (doc pm ctv : Value) (osl : Array (Option Value)), fd = F.fd doc pm ctv ∧ K.lookup fI = some ⟨oc, od, .func fd, osl⟩
  cd : PySem.W.codeIn K (.ref F.c) F.qual = true
  file : ∃ ccl cdd vs ccs file tf, K.lookup F.c = some ⟨ccl, cdd, .fields vs, ccs⟩ ∧ vs[2]? = some (.str file tf) ∧ ((P.main.file : Str) == file) = true
  cell : ∃ cc cl cld csl, F.cl = [(("__class__" : Str), cc)] ∧ K.lookup cc = some ⟨cl, cld, .cell (some (.ref C)), csl⟩
section
variable {P : Program} {w : World} {K : PySem.W.Frag} {mg : Str → Option Value} {base : Heap} {C fI : Addr} {f p : Str} {fd : FuncData} {F : NF}
def spSup (K : PySem.W.Frag) (C : Addr) (f : Str) (ok : V → Bool) : Sp := fun vs H Q E => vs.length = 2 ∧ ∃ a x, vs = [.ref a, x] ∧ ok x = true ∧ H a = some (exo a C none) ∧ ∀ dx, H dx = none → dx ≠ a → Q .non (upd (upd H dx (exd dx [(f, x)])) a (exo a C (some dx)))
structure SupW (F : NF) (p f : Str) (e : Expr) : Prop where
  sc : NScope ["self", p, "__class__"] ["self", p] ["__class__"] F.scope
  self_ : (F.params.posonlyargs ++ F.params.args).head?.map (·.arg) = some "self"
  su : F.scope.names.lookup ("super" : Str) = some .globalImplicit
  body : ∃ p0 p1 p2 p3 p4 q1 q2 q3 q4, F.body = [.Expr (.Call (.Attribute (.Call (.Name "super" p0) [] [] p1) "__init__" p2) [e] [] p3) p4, .Assign [.Attribute (.Name "self" q1) f q2] (.Name p q3) q4] ∧
    ∀ fI L : Addr, ∃ pl : Sem Bool, eval (.Call (.Attribute (.Call (.Name "super" p0) [] [] p1) "__init__" p2) [e] [] p3) (envF F fI L) = (do
      let ov ← attributeBase (.Call (.Name "super" p0) [] [] p1) "__init__" (envF F fI L) (eval (.Call (.Name "super" p0) [] [] p1) (envF F fI L))
      standAt p2.atName
      let (f, first) ← holding [ov] (getMethod ov "__init__" pl)
      callWith p3 f first (backTo p3 (starEach [e] (envF F fI L))) [])
  dbg : (p == ("__debug__" : Str)) = false ∧ (p == ("__classdict__" : Str)) = false
  st : ∀ fI L : Addr, starEach [e] (envF F fI L) = (false, eval e (envF F fI L)) :: starEach [] (envF F fI L)
  sw : ∀ (fI L : Addr) (p0 p1 p2 p3 p4 : Pos), swapsWith (.Call (.Attribute (.Call (.Name "super" p0) [] [] p1) "__init__" p2) [e] [] p3) none p4.line (envF F fI L) = pure false
  sw2 : ∀ (fI L : Addr) (q1 q2 q3 q4 : Pos), swapsWith (.Name p q3) (some (.Attribute (.Name "self" q1) f q2)) q4.line (envF F fI L) = pure false
end
end DL
namespace DL
open PySem L2 PyProof.Rows
def dRaise (C : Str) : Env → Fl := fun ρ => .ex ⟨C, []⟩ ρ
def stRaise (C f : Str) (ok : At → Bool) (d : D) (ρ : Env) : Fl := match d with
  | .a x => if ok x = true then .ex ⟨C, [(f, x)]⟩ ρ else .st
  | _ => .st
structure ExP (K : PySem.W.Frag) (C : Addr) : Prop where
  exc : PySem.W.excIn K C He.veBase "ValueError.__new__" = true
  keep : PySem.W.keepIn K (.ref C) = true
  sub : PySem.W.subIn K (.ref C) (.type "BaseException") = some true
  typ : PySem.W.typeIn K (.ref C) = some (.type "type")
structure ExS (P : Program) (w : World) (K : PySem.W.Frag) (mg : Str → Option Value) (base : Heap) (C : Addr) (f : Str) (ok : At → Bool) : Prop where
  ex : ∃ (fI : Addr) (fd : FuncData) (p : Str) (okV : V → Bool), SupC P K C fI f ∧ FnOk P w K mg base (L2.CX P w) 1 fI fd ["self", p] (spSup K C f okV) ∧ Binds K fd ["self", p] [] ∧ ∀ x : At, ok x = true → okV x.v = true
section
variable {X : Cx} {cA : Str → Addr} {W : WX} {k : Option Nat} {fa : Env → Out D} {e : Expr} {pos pos' : Pos}
end
inductive HdX (X : Cx) : List ExceptHandler → List (Value × (Addr → Value → Option Addr → TS)) → Prop
  | nil : HdX X [] []
  | cons {x : Str} {c : Value} {ts : Addr → Value → Option Addr → TS} {b₀ : Stmt} {suite : List Stmt} {np pos' : Pos} {hds : List ExceptHandler} {l : List (Value × (Addr → Value → Option Addr → TS))} (hc : Names X x c)
      (hsu : ∀ (a : Addr) (oe : Obj) (cls : Value) (d : Option Addr) (pn : List (Addr × Obj)), Zc cls d oe → (∃ vs, oe.data = .fields vs) → PSs (X.suite a ((a, oe) :: pn)) (b₀ :: suite) (ts a cls d)) (r : HdX X hds l) :
      HdX X (.ExceptHandler (some (.Name x np)) none (b₀ :: suite) pos' :: hds) ((c, ts) :: l)
  | as {x n : Str} {i : Nat} {c : Value} {ts t0 : Addr → Value → Option Addr → TS} {b₀ : Stmt} {suite : List Stmt} {np pos' : Pos} {hds : List ExceptHandler} {l : List (Value × (Addr → Value → Option Addr → TS))} (hc : Names X x c) (hi : X.N[i]? = some n) (hln : X.env.kindOf n = some .local)
      (hsu : ∀ (a : Addr) (oe : Obj) (cls : Value) (d : Option Addr) (pn : List (Addr × Obj)), Zc cls d oe → (∃ vs, oe.data = .fields vs) → PSs (X.suite a ((a, oe) :: pn)) (b₀ :: suite) (t0 a cls d))
      (imp : ∀ a cls d D σ H, ts a cls d D σ H → t0 a cls d { nx := fun σ' H' => D.nx (σ'.set i none) H', rt := D.rt, bk := fun σ' H' => D.bk (σ'.set i none) H', ct := fun σ' H' => D.ct (σ'.set i none) H' } (σ.set i (some (.ref a))) H) (r : HdX X hds l) :
      HdX X (.ExceptHandler (some (.Name x np)) (some n) (b₀ :: suite) pos' :: hds) ((c, ts) :: l)
section
variable {X : Cx} {body : List Stmt} {h₀ : ExceptHandler} {hds : List ExceptHandler} {l : List (Value × (Addr → Value → Option Addr → TS))} {pos : Pos} {tb : WX → TS} {Wout : WX}
end
abbrev Hd := Str × List (Str × Bool) × (Exn → Env → Fl)
def noEx : Fl → Fl
  | .ex _ _ => .st
  | r => r
def dCatch : List Hd → Exn → Env → Fl
  | [], e, ρ => .ex e ρ
  | (_, m, h) :: r, e, ρ => match m.lookup e.c with
    | some true => noEx (h e ρ)
    | some false => dCatch r e ρ
    | none => .st
def dTry (b : Env → Fl) (hs : List Hd) : Env → Fl := fun ρ => match b ρ with
  | .ex e ρ1 => dCatch hs e ρ1
  | r => r
section
variable (K : PySem.W.Frag) (cA : Str → Addr)
end
def TSE (cA : Str → Addr) (i : Nat) (a : Addr) (cls : Value) (d : Option Addr) (g : Exn → Option At) : TE := fun σ H Q => ∃ ex x Z, Wf H Z [] ∧ σ[i]? = some (some (V.ref a)) ∧ ExR cA H Z ex cls d ∧ g ex = some x ∧ ∀ H' Z', Wf H' Z' [] → Fr H Z [] H' Z' [] → Q x.v H'
def hRet (i : Nat) (g : Exn → Option At) : Exn → Env → Fl := fun ex ρ => match g ex with
  | some x => if i < ρ.length then .rt (.a x) (ρ.set i none) else .st
  | none => .st
def Matches (K : PySem.W.Frag) (cA : Str → Addr) (C : Str) (m : List (Str × Bool)) : Prop := ∀ c b, m.lookup c = some b → PySem.W.exmOne K (.ref (cA c)) (.ref (cA C)) = some b
inductive DHs (X : Cx) (cA : Str → Addr) (k : Option Nat) : List ExceptHandler → List Hd → Prop
  | nil : DHs X cA k [] []
  | cons {C : Str} {m : List (Str × Bool)} {f : Env → Fl} {b₀ : Stmt} {suite : List Stmt} {np pos' : Pos} {hds : List ExceptHandler} {l : List Hd} (hc : Names X C (.ref (cA C))) (hm : Matches X.K cA C m)
      (hsu : ∀ (a : Addr) (oe : Obj) (cls : Value) (d : Option Addr) (pn : List (Addr × Obj)), Zc cls d oe → (∃ vs, oe.data = .fields vs) → DSs (X.suite a ((a, oe) :: pn)) cA WN k f (b₀ :: suite)) (r : DHs X cA k hds l) :
      DHs X cA k (.ExceptHandler (some (.Name C np)) none (b₀ :: suite) pos' :: hds) ((C, m, fun _ => f) :: l)
  | as {C n : Str} {i : Nat} {m : List (Str × Bool)} {g : Exn → Option At} {e : Expr} {np pos' rp : Pos} {hds : List ExceptHandler} {l : List Hd} (hc : Names X C (.ref (cA C))) (hm : Matches X.K cA C m) (hi : X.N[i]? = some n) (hln : X.env.kindOf n = some .local)
      (hsu : ∀ (a : Addr) (oe : Obj) (cls : Value) (d : Option Addr) (pn : List (Addr × Obj)), Zc cls d oe → (∃ vs, oe.data = .fields vs) → PE (X.suite a ((a, oe) :: pn)) e (TSE cA i a cls d g)) (r : DHs X cA k hds l) :
      DHs X cA k (.ExceptHandler (some (.Name C np)) (some n) [.Return (some e) rp] pos' :: hds) ((C, m, hRet i g) :: l)
section
variable {X : Cx} {cA : Str → Addr} {k : Option Nat} {W : WX}
end
end DL
namespace DL
open PySem L2 PyProof.Rows NdefX
def sF (C f : Str) : Exn → Option At := fun ex => if ex.c = C then ex.fs.lookup f else none
section
variable {X : Cx} {cA : Str → Addr} {i : Nat} {a : Addr} {cls : Value} {d : Option Addr} {g h : Exn → Option At} {e e2 : Expr} {pos : Pos}
end
abbrev FnC : Type := Option (Str × Str × Arguments × FuncBody × Scope × Addr × Addr)
def fnC (K : PySem.W.Frag) (p : Str × Option Str) : FnC := match K.lookup (He.fAd K p) with
  | some ⟨_, _, .func fd, _⟩ => some (fd.name, fd.qualname, fd.params, fd.body, fd.scope, fd.globals, fd.builtins)
  | _ => none
def oexB (K : PySem.W.Frag) (C : Addr) : Bool := (match K.lookup C with
  | some ⟨.type "type", _, .cls cd, sl⟩ => (match cd.mro, sl.toList with
    | .ref C' :: bm, [_, _, _, _, some (.builtin n), _] => C' == C && (n == "ValueError.__new__" && (!cd.hasDel && (cd.hasDict && PySem.HandSPX.refsVE bm)))
    | _, _ => false)
  | _ => false) && (decide (PySem.W.findIn K (.ref C) "__setattr__" = some (some (.builtin "object.__setattr__"))) && (decide (PySem.W.subIn K (.ref C) (.type "BaseException") = some true) && (decide (PySem.W.typeIn K (.ref C) = some (.type "type")) && PySem.W.keepIn K (.ref C))))
theorem oexB_ok {K : PySem.W.Frag} {C : Addr} (h : oexB K C = true) : OexC K C := by
  unfold oexB at h
  rw [Bool.and_eq_true] at h
  obtain ⟨h0, h⟩ := h
  simp only [Bool.and_eq_true, decide_eq_true_eq] at h
  obtain ⟨h1, h2, h3, h4⟩ := h
  refine ⟨?_, h1, h2, h3, h4⟩
  split at h0
  · rename_i dd cd sl ho
    split at h0
    · rename_i C' bm k0 k1 k2 k3 n k5 hm hs
      simp only [Bool.and_eq_true, beq_iff_eq, Bool.not_eq_true'] at h0
      obtain ⟨rfl, rfl, hdel, hdict, hve⟩ := h0
      obtain ⟨nm, bs, mro, ns, qn, hd, sn, sub, ab, col, del⟩ := cd
      dsimp only at hm hdel hdict
      subst hm hdel hdict
      have hsl : sl = #[k0, k1, k2, k3, some (.builtin "ValueError.__new__"), k5] := by
        obtain ⟨l⟩ := sl
        simp only at hs
        rw [hs]
      subst hsl
      exact ⟨nm, qn, ns, bs, bm, sn, sub, ab, col, dd, k0, k1, k2, k3, k5, ho, hve⟩
    · cases h0
  · cases h0
def supB (file : Str) (K : PySem.W.Frag) (C fI : Addr) (f : Str) : Bool := oexB K C && (decide (PySem.W.findIn K (.ref C) "__init__" = some (some (.ref fI))) && (decide (PySem.W.typeIn K (.ref fI) = some (.type "function")) && (decide (PySem.W.findIn K (.ref C) f = some none) &&
  ((PySem.W.clsIn K C).isSome && (decide (PySem.W.mroIn K C (.ref C) = some true) && (decide (PySem.W.ks_superIn K C C "__init__" = some (some (.builtin "ValueError.__init__"))) && (decide (PySem.W.subIn K (.ref C) (.type "ValueError") = some true) &&
  (decide (PySem.W.nsIn K cStatics "thirdparty.any" = some none) && (match K.lookup fI with
    | some ⟨_, _, .func fd, _⟩ => (match fd.defaults, fd.kwdefaults, fd.annotations, fd.code, fd.closure with
      | .none, .none, none, .ref c, [(x, cc)] => PySem.W.codeIn K (.ref c) fd.qualname && (decide (x = "__class__") && ((match K.lookup cc with
        | some ⟨_, _, .cell (some (.ref D)), _⟩ => D == C
        | _ => false) && (match K.lookup c with
        | some ⟨_, _, .fields vs, _⟩ => (match (vs[2]? : Option Value) with
          | some (Value.str z _) => file == z
          | _ => false)
        | _ => false)))
      | _, _, _, _, _ => false)
    | _ => false)))))))))
theorem supB_ok {P : Program} {file : Str} {K : PySem.W.Frag} {C : Addr} {f : Str} {p : Str × Option Str} {name qual : Str} {params : Arguments} {body : List Stmt} {scope : Scope} (h : supB file K C (He.fAd K p) f = true) (e : fnC K p = some (name, qual, params, .stmts body, scope, mainGlobals, builtinsNs))
    (hfile : P.main.file = file) (htop : (P.main.scope.names.lookup ("super" : Str)).isSome = false) :
    ∃ fd cl c, SupC P K C (He.fAd K p) f ∧ SupF P K C (He.fAd K p) fd ⟨name, qual, params, body, scope, cl, c⟩ := by
  unfold supB at h
  simp only [Bool.and_eq_true, decide_eq_true_eq] at h
  obtain ⟨h0, h1, h2, h3, h4, h5, h6, h7, h8, h9⟩ := h
  have ox := oexB_ok h0
  obtain ⟨cd, hcd⟩ := Option.isSome_iff_exists.mp h4
  have SC : SupC P K C (He.fAd K p) f := ⟨ox, ox.kC, h1, h2, h3, ⟨cd, hcd, h5⟩, h6, h7, h8, htop⟩
  unfold fnC at e
  cases q : K.lookup (He.fAd K p) with
  | none => rw [q] at h9; cases h9
  | some o =>
    obtain ⟨oc, od, dt, osl⟩ := o
    rw [q] at h9 e
    cases dt with
    | func fd =>
      obtain ⟨n1, n2, n3, n4, n5, n6, n7, n8, n9, n10, n11, n12, n13, n14, n15⟩ := fd
      dsimp only at h9 e
      simp only [Option.some.injEq, Prod.mk.injEq] at e
      obtain ⟨e1, e2, e3, e4, e5, e6, e7⟩ := e
      subst e1 e2 e3 e4 e5 e6 e7
      split at h9
      · rename_i c x cc
        simp only [Bool.and_eq_true, decide_eq_true_eq] at h9
        obtain ⟨k1, rfl, k3, k4⟩ := h9
        refine ⟨_, [("__class__", cc)], c, SC, ⟨oc, od, n10, n11, n14, osl, rfl, q⟩, k1, ?_, ?_⟩
        · split at k4
          · rename_i a1 a2 vs a3 hc
            split at k4
            · rename_i z tf hz
              exact ⟨_, _, _, _, z, tf, hc, hz, by rw [hfile]; exact k4⟩
            · cases k4
          · cases k4
        · split at k3
          · rename_i a1 a2 D a3 hc
            have e := beq_iff_eq.mp k3
            subst e
            exact ⟨cc, _, _, _, rfl, hc⟩
          · cases k3
      · cases h9
    | _ => cases h9
structure ExD where
  cls : Str
  fld : Str
  name : Str
  qual : Str
  params : Arguments
  body : List Stmt
  scope : Scope
def ExD.val (d : ExD) : FnC := some (d.name, d.qual, d.params, .stmts d.body, d.scope, mainGlobals, builtinsNs)
def ExD.ok (file : Str) (K : PySem.W.Frag) (d : ExD) : Bool := supB file K (He.ga K d.cls) (He.fAd K (d.cls, some "__init__")) d.fld
abbrev Fy := PySem.W.Frag → Bool
abbrev AlY := He.AlD × Bool × List FnC
def obsY (file : Str) (fa : List He.Fa) (fn : List He.DefD) (es : List ExD) (ys : List Fy) (K : PySem.W.Frag) : AlY := (He.obsD fa fn K, (ys.all fun y => y K) && es.all fun d => d.ok file K, es.map fun d => fnC K (d.cls, some "__init__"))
def valY (fn : List He.DefD) (es : List ExD) : AlY := (He.valD fn, true, es.map ExD.val)
def frY (g : Addr → Option Obj) (n : Nat) : PySem.W.Frag := He.frG g (cStatics :: He.asD g n)
def obsYG (n : Nat) (file : Str) (fa : List He.Fa) (fn : List He.DefD) (es : List ExD) (ys : List Fy) (g : Addr → Option Obj) : AlY := obsY file fa fn es ys (frY g n)
def SaysY (file : Str) (fa : List He.Fa) (fn : List He.DefD) (es : List ExD) (ys : List Fy) (K : PySem.W.Frag) : Prop := obsY file fa fn es ys K = valY fn es
def hookY (n : Nat) (file : Str) (fa : List He.Fa) (fn : List He.DefD) (es : List ExD) (ys : List Fy) : PySem.W.Hook where
  α := AlY
  obs := fun s => obsYG n file fa fn es ys s.heap.get?
  val := fun _ => valY fn es
  says := fun _ h => ∃ K : PySem.W.Frag, K.In h ∧ SaysY file fa fn es ys K
  of := fun _ _ e => ⟨_, He.frG_in, e⟩
  keeps := fun _ _ _ ⟨K, hK, c⟩ k => ⟨K, PySem.W.Frag.In.keeps hK k, c⟩
theorem obsYG_eq {n : Nat} {file : Str} {fa : List He.Fa} {fn : List He.DefD} {es : List ExD} {ys : List Fy} {g : Addr → Option Obj} {s : Shared} (h : ∀ a, g a = s.heap.get? a) : obsYG n file fa fn es ys g = (hookY n file fa fn es ys).obs s := by
  have e : g = s.heap.get? := funext h
  rw [e] <;> rfl
section
variable {file : Str} {fa : List He.Fa} {fn : List He.DefD} {es : List ExD} {ys : List Fy} {K : PySem.W.Frag}
theorem SaysY.d (h : SaysY file fa fn es ys K) : He.SaysD fa fn K := congrArg (fun z : AlY => z.1) h
theorem SaysY.y (h : SaysY file fa fn es ys K) (i : Nat) {y : Fy} (e : ys[i]? = some y) : y K = true := by
  have c : ((ys.all fun y => y K) && es.all fun d => d.ok file K) = true := congrArg (fun z : AlY => z.2.1) h
  rw [Bool.and_eq_true] at c
  exact List.all_eq_true.mp c.1 y (List.mem_of_getElem? e)
theorem SaysY.e (h : SaysY file fa fn es ys K) (i : Nat) {d : ExD} (e : es[i]? = some d) {P : Program} (hfile : P.main.file = file) (htop : (P.main.scope.names.lookup ("super" : Str)).isSome = false) :
    ∃ fd cl c, SupC P K (He.ga K d.cls) (He.fAd K (d.cls, some "__init__")) d.fld ∧ SupF P K (He.ga K d.cls) (He.fAd K (d.cls, some "__init__")) fd ⟨d.name, d.qual, d.params, d.body, d.scope, cl, c⟩ := by
  have c : ((ys.all fun y => y K) && es.all fun d => d.ok file K) = true := congrArg (fun z : AlY => z.2.1) h
  rw [Bool.and_eq_true] at c
  have c2 := List.all_eq_true.mp c.2 d (List.mem_of_getElem? e)
  have c3 : es.map (fun d => fnC K (d.cls, some "__init__")) = es.map ExD.val := congrArg (fun z : AlY => z.2.2) h
  have e2 : (es.map fun d => fnC K (d.cls, some "__init__"))[i]? = (es.map ExD.val)[i]? := by rw [c3]
  rw [List.getElem?_map, List.getElem?_map, e] at e2
  exact supB_ok c2 (Option.some.inj e2) hfile htop
end
end DL
namespace DL
open PySem L2 PyProof.Rows NdefX
section
variable {P : Program} {w : World} {K : PySem.W.Frag} {mg : Str → Option Value} {base : Heap} {C fI : Addr} {f p : Str} {fd : FuncData} {F : NF}
end
end DL
namespace DL
open PySem L2 PyProof.Rows
structure KitN (K : PySem.W.Frag) (C : Addr) : Prop where
  kit : ∀ t ∈ tyAll, PySem.W.kitOne K (.type t) (.ref C) = some false
  nf : ∀ t ∈ tyAll, PySem.W.notFirst K C (.type t) = true
def gIsiA (C : Str) : D → Option D := fun d => match d with
  | .n (.ins C' _) _ _ => if C' = C then some (.bl true) else none
  | _ => match tyN d with
    | some _ => some (.bl false)
    | none => none
section
variable {X : Cx} {cA : Str → Addr} {W : WX} {fa fb : Env → Out D} {a b : Expr} {pos : Pos}
end
section
variable {X : Cx} {cA : Str → Addr} {C : Str} {f : Addr} {fd : FuncData} {ps : List Str} {k : Nat} {kio : Option Nat} {F : List D → FR}
end
end DL
namespace DL
open PySem L2 PyProof.Rows
section
variable {X : Cx} {cA : Str → Addr} {W : WX} {C : Str} {f : Addr} {fd : FuncData} {ps : List Str} {k : Nat} {kio : Option Nat} {F : List D → FR} {fa fb : Env → Out D} {a b : Expr} {pos apos : Pos}
def gLenO (C : Str) (F : List D → FR) : D → Option D
  | .n (.ins C1 fs1) false xs1 => if C1 = C ∧ isFL xs1 = true then (match F [.n (.ins C1 fs1) false xs1] with
    | .rt (.a (.int n)) _ => if 0 ≤ n ∧ n < 1000000 then some (.int n) else none
    | _ => none) else none
  | d => gLen d
def firstEq (x : D) : List D → Option Nat
  | [] => none
  | y :: ys => if eqD y x = true then some 0 else (firstEq x ys).map (· + 1)
def gIndexL (l x : D) : Option D := match l with
  | .n .lst _ ys => if pD 60 x = true ∧ pDL 60 ys = true then (firstEq x ys).map fun j => D.int (j : Nat) else none
  | _ => none
def dIndexL (fa fb : Env → Out D) : Env → Out D := fun ρ => match fa ρ with
  | .ok (.n .lst o xs) ρ1 => (match fb ρ1 with
    | .ok d2 ρ2 => (match gIndexL (.n .lst o xs) d2 with
      | some d => .ok d ρ2
      | none => .st)
    | .ex e ρ2 => .ex e ρ2
    | .st => .st)
  | .ok _ _ => .st
  | .ex e ρ1 => .ex e ρ1
  | .st => .st
end
def dRngD (f g : Env → Out D) : Env → Out (List D) := fun ρ => match f ρ with
  | .ok (.a (.int i)) ρ1 => (match g ρ1 with
    | .ok (.a (.int j)) ρ2 => if (-1000000 ≤ i ∧ i ≤ 1000000) ∧ -1000000 ≤ j ∧ j ≤ 1000000 then .ok (intsC i (-1) (i - j).toNat) ρ2 else .st
    | .ok _ _ => .st
    | .ex e ρ2 => .ex e ρ2
    | .st => .st)
  | .ok _ _ => .st
  | .ex e ρ1 => .ex e ρ1
  | .st => .st
section
variable {X : Cx} {cA : Str → Addr} {W : WX} {f g : Env → Out D} {e e2 tg : Expr} {p p2 p3 pos : Pos}
end
end DL
namespace DL
open PySem PySem.Spec PySem.W PyProof.Rows L2
section
variable {prog : Program} {w : World} {A : Around} {E : Value → Shared → Prop} {s : Shared}
end
section
variable {X : Cx} {cA : Str → Addr} {W : WX} {fa : Env → Out D} {a : Expr}
end
end DL
namespace DL
open PySem L2
def tgP (g1 g2 : D → Env → Option Env) (d : D) (ρ : Env) : Option Env := match d with
  | .n .tup _ [a, b] => (match g1 a ρ with
    | some ρ1 => g2 b ρ1
    | none => none)
  | _ => none
theorem But.trans {is js : List Nat} {σ σ1 σ2 : L2.St} (a : But is σ σ1) (b : But js σ1 σ2) : But (is ++ js) σ σ2 :=
  ⟨by rw [b.1, a.1], fun j hj => by
    rw [List.mem_append] at hj
    rw [b.2 j fun m => hj (.inr m), a.2 j fun m => hj (.inl m)]⟩
theorem s_tgP {g1 g2 : D → DL.Env → Option DL.Env} {o : Bool} {a b : D} {ρ : DL.Env} : tgP g1 g2 (.n .tup o [a, b]) ρ = (match g1 a ρ with | some ρ1 => g2 b ρ1 | none => none) := rfl
end DL
namespace DL
open PySem L2 PyProof.Rows
section
variable {X : Cx} {cA : Str → Addr} {W : WX} {fa fb : Env → Out D} {k : Nat} {kio : Option Nat} {f : Addr} {fd : FuncData} {ps : List Str} {F : List D → FR} {mn : Str} {pos : Pos} {a b : Expr} {op : Operator}
end
end DL
namespace DL
open PySem L2 PyProof.Rows
def dBinO (C : Str) (F : List D → FR) (fa fb : Env → Out D) : Env → Out D := fun ρ => match fa ρ with
  | .ok (.n (.ins C1 fs) false xs) ρ1 => if C1 = C ∧ isFL xs = true then (match fb ρ1 with
    | .ok (.n (.ins C2 gs) false ys) ρ2 => if C2 = C ∧ isFL ys = true then (match F [.n (.ins C1 fs) false xs, .n (.ins C2 gs) false ys] with
        | .rt d _ => .ok d ρ2
        | .ex e _ => .ex e ρ2
        | .st => .st) else .st
    | .ok _ _ => .st
    | .ex e ρ2 => .ex e ρ2
    | .st => .st) else .st
  | .ok _ _ => .st
  | .ex e ρ1 => .ex e ρ1
  | .st => .st
section
variable {X : Cx} {cA : Str → Addr} {W : WX} {fa fb : Env → Out D} {k : Nat} {kio : Option Nat} {f : Addr} {fd : FuncData} {ps : List Str} {F : List D → FR} {mn : Str} {pos : Pos} {a b : Expr} {op : Operator}
end
end DL
namespace DL
open PySem L2 PyProof.Rows
def dNegO (C : Str) (F : List D → FR) (fa : Env → Out D) : Env → Out D := fun ρ => match fa ρ with
  | .ok (.n (.ins C1 fs) false xs) ρ1 => if C1 = C ∧ isFL xs = true then (match F [.n (.ins C1 fs) false xs] with
        | .rt d _ => .ok d ρ1
        | .ex e _ => .ex e ρ1
        | .st => .st) else .st
  | .ok _ _ => .st
  | .ex e ρ1 => .ex e ρ1
  | .st => .st
section
variable {X : Cx} {cA : Str → Addr} {W : WX} {fa : Env → Out D} {k : Nat} {kio : Option Nat} {f : Addr} {fd : FuncData} {ps : List Str} {F : List D → FR} {pos : Pos} {a : Expr}
end
end DL
namespace DL
open PySem L2
def isLs : Kd → Bool
  | .lst => true
  | _ => false
def isTI : Kd → Bool
  | .tup => true
  | .ins _ _ => true
  | _ => false
mutual
def okO : D → Bool
  | .a _ => true
  | .n k o xs => (!o || isLs k) && okOL xs
def okOL : List D → Bool
  | [] => true
  | x :: xs => okO x && okOL xs
end
mutual
def noL : D → Bool
  | .a _ => true
  | .n k _ xs => isTI k && noLL xs
def noLL : List D → Bool
  | [] => true
  | x :: xs => noL x && noLL xs
end
section
variable {K : PySem.W.Frag} {cA : Str → Addr} {H H' : Hp} {Z Z' : ZS}
def tmpE (is : List Nat) : Nat → Env → Env
  | _, [] => []
  | k, none :: ρ => none :: tmpE is (k + 1) ρ
  | k, some d :: ρ => (if k ∈ is ∧ okO d = true then some (frz d) else if isF d = true then some d else none) :: tmpE is (k + 1) ρ
end
def dTmp (is : List Nat) (f : Env → Out D) : Env → Out D := fun ρ => match f (tmpE is 0 ρ) with
  | .ok d _ => if noL d = true then .ok d ρ else .st
  | .ex e _ => .ex e ρ
  | .st => .st
section
variable {X : Cx} {cA : Str → Addr} {W : WX} {f : Env → Out D} {e : Expr}
def dMv (i : Nat) : Env → Out D := fun ρ => match ρ[i]? with
  | some (some d) => .ok d (ρ.set i none)
  | _ => .st
def dPop0 (i : Nat) : Env → Out D := fun ρ => match ρ[i]? with
  | some (some (.n .lst true xs)) => (match xs[xs.length - 1]? with
    | some d => .ok d (ρ.set i (some (.lst true (xs.eraseIdx (xs.length - 1)))))
    | none => .st)
  | _ => .st
end
end DL
namespace DL
open PySem L2
def keyOf : At → Option Key
  | .int i => some (.inl i)
  | .str s => some (.inr s)
  | _ => none
theorem keyOf_v {x : At} {k : Key} (h : keyOf x = some k) : x.v = kV k := by
  cases x <;> simp [keyOf] at h <;> subst h <;> rfl
def dctAt : List Key → List D → Key → Option D
  | k :: ks, x :: xs, j => if k = j then some x else dctAt ks xs j
  | _, _, _ => none
def hasK (j : Key) : List Key → Bool
  | [] => false
  | k :: ks => decide (k = j) || hasK j ks
def putKs (ks : List Key) (j : Key) : List Key := if hasK j ks = true then ks else ks ++ [j]
def putR : List Key → List D → Key → D → List D
  | k :: ks, x :: xs, j, d => (if k = j then d else x) :: putR ks xs j d
  | _, _, _, _ => []
def putXs (ks : List Key) (xs : List D) (j : Key) (d : D) : List D := if hasK j ks = true then putR ks xs j d else xs ++ [d]
section
variable {K : PySem.W.Frag} {cA : Str → Addr} {H H' : Hp} {Z Z' : ZS}
theorem rep_dct {ks : List Key} {o : Bool} {xs : List D} {v : V} {fp : FP} (h : RepD K cA H Z (.n (.dct ks) o xs) v fp) : ∃ p vs g, v = .ref p ∧ H p = some (.dK (ks.zip vs)) ∧ ks.length = vs.length ∧ RepL K cA H Z xs vs g ∧ fp = (if o then p :: g else []) ∧ (o = false → Z p ∧ g = []) := by
  obtain ⟨p, vs, g, e, hl, ⟨h1, h2, h3⟩, ef, hg⟩ := h
  exact ⟨p, vs, g, e, h1, h2, hl, ef, fun ho => ⟨h3 ho, hg ho⟩⟩
theorem dctAt_rep : ∀ {ks : List Key} {xs : List D} {vs : List V} {g : FP} {k : Key}, RepL K cA H Z xs vs g → ks.length = vs.length → (∀ d, dctAt ks xs k = some d → ∃ v f0 f1 f2, valV (ks.zip vs) k = some v ∧ RepD K cA H Z d v f1 ∧ g = f0 ++ f1 ++ f2) ∧ (dctAt ks xs k = none → valV (ks.zip vs) k = none)
  | [], xs, vs, g, k, h, hl => by
    have e : vs = [] := List.length_eq_zero_iff.mp hl.symm
    subst e
    exact ⟨fun d e => by cases xs <;> simp [dctAt] at e, fun _ => rfl⟩
  | j :: ks, [], vs, g, k, h, hl => by
    rw [h.1] at hl
    cases hl
  | j :: ks, x :: xs, vs, g, k, h, hl => by
    obtain ⟨v, vs', f1, f2, ev, h1, h2, ef⟩ := h
    subst ev
    have ih := dctAt_rep (k := k) h2 (by simpa using hl)
    rw [List.zip_cons_cons]
    by_cases e : j = k
    · rw [valV_pos e]
      simp only [dctAt, e, if_pos]
      exact ⟨fun d e => by cases e; exact ⟨v, [], f1, f2, rfl, h1, by simpa using ef⟩, fun e => by cases e⟩
    · rw [valV_neg e]
      simp only [dctAt, if_neg e]
      exact ⟨fun d hd => by
        obtain ⟨w, g0, g1, g2, e1, e2, e3⟩ := ih.1 d hd
        exact ⟨w, f1 ++ g0, g1, g2, e1, e2, by rw [ef, e3]; simp⟩, ih.2⟩
theorem any_zip {k : Key} : ∀ {ks : List Key} {vs : List V}, ks.length = vs.length → ((ks.zip vs).any fun kv => decide (kv.1 = k)) = hasK k ks
  | [], [], _ => rfl
  | j :: ks, v :: vs, h => by
    rw [List.zip_cons_cons, List.any_cons, any_zip (by simpa using h)]
    rfl
  | [], _ :: _, h => by cases h
  | _ :: _, [], h => by cases h
theorem putR_rep {k : Key} {d : D} {v : V} (hd : RepD K cA H Z d v []) : ∀ {ks : List Key} {xs : List D} {vs : List V}, RepL K cA H Z xs vs [] → ks.length = vs.length → ∃ ws, RepL K cA H Z (putR ks xs k d) ws [] ∧ ks.length = ws.length ∧ ((ks.zip vs).map fun kv => if kv.1 = k then (kv.1, v) else kv) = ks.zip ws
  | [], xs, vs, h, hl => by
    have e : vs = [] := List.length_eq_zero_iff.mp hl.symm
    subst e
    have e : xs = [] := List.length_eq_zero_iff.mp (repL_len h).symm
    subst e
    exact ⟨[], ⟨rfl, rfl⟩, rfl, rfl⟩
  | j :: ks, [], vs, h, hl => by
    rw [h.1] at hl
    cases hl
  | j :: ks, x :: xs, vs, h, hl => by
    obtain ⟨u, vs', f1, f2, ev, h1, h2, ef⟩ := h
    subst ev
    obtain ⟨rfl, rfl⟩ : f1 = [] ∧ f2 = [] := by
      have := ef.symm
      simpa using this
    obtain ⟨ws, r, l, e⟩ := putR_rep hd (ks := ks) h2 (by simpa using hl)
    rw [List.zip_cons_cons, List.map_cons, e]
    by_cases q : j = k
    · refine ⟨v :: ws, ⟨v, ws, [], [], rfl, ?_, r, rfl⟩, by simp [l], ?_⟩
      · rw [if_pos q]; exact hd
      · subst q; rw [List.zip_cons_cons]; simp
    · refine ⟨u :: ws, ⟨u, ws, [], [], rfl, ?_, r, rfl⟩, by simp [l], ?_⟩
      · rw [if_neg q]; exact h1
      · rw [List.zip_cons_cons]; simp [q]
theorem put_rep {k : Key} {d : D} {v : V} {ks : List Key} {xs : List D} {vs : List V} (hd : RepD K cA H Z d v []) (h : RepL K cA H Z xs vs []) (hl : ks.length = vs.length) : ∃ ws, RepL K cA H Z (putXs ks xs k d) ws [] ∧ (putKs ks k).length = ws.length ∧ putK (ks.zip vs) k v = (putKs ks k).zip ws := by
  unfold putXs putKs putK
  rw [any_zip hl]
  by_cases q : hasK k ks = true
  · rw [if_pos q, if_pos q, if_pos q]
    exact putR_rep hd h hl
  · rw [if_neg q, if_neg q, if_neg q]
    refine ⟨vs ++ [v], repL_append h (repL_one hd), by simp [hl], ?_⟩
    rw [List.zip_append hl]
    rfl
end
def dDGet (i : Nat) (fb : Env → Out D) : Env → Out D := fun ρ => match ρ[i]? with
  | some (some (.n (.dct _) _ _)) => (match fb ρ with
    | .ok (.a x) ρ1 => (match keyOf x with
      | some k => (match ρ1[i]? with
        | some (some (.n (.dct ks) _ xs)) => (match dctAt ks xs k with
          | some d => if isF d = true then .ok d ρ1 else .st
          | none => .st)
        | _ => .st)
      | none => .st)
    | .ok _ _ => .st
    | .ex e ρ1 => .ex e ρ1
    | .st => .st)
  | _ => .st
def dDIn (neg : Bool) (i : Nat) (fb : Env → Out D) : Env → Out D := fun ρ => match fb ρ with
  | .ok (.a x) ρ1 => (match keyOf x with
    | some k => (match ρ1[i]? with
      | some (some (.n (.dct ks) _ xs)) => if ks.length = xs.length then .ok (.a (.bl (if neg then !hasK k ks else hasK k ks))) ρ1 else .st
      | _ => .st)
    | none => .st)
  | .ok _ _ => .st
  | .ex e ρ1 => .ex e ρ1
  | .st => .st
def dDGet2 (i : Nat) (fb fc : Env → Out D) : Env → Out D := fun ρ => match ρ[i]? with
  | some (some (.n (.dct _) _ _)) => (match fb ρ with
    | .ok (.a x) ρ1 => (match fc ρ1 with
      | .ok c ρ2 => (match keyOf x with
        | some k => (match ρ2[i]? with
          | some (some (.n (.dct ks) _ xs)) => (match dctAt ks xs k with
            | some d => if isF d = true ∧ isF c = true then .ok d ρ2 else .st
            | none => if isF c = true then .ok c ρ2 else .st)
          | _ => .st)
        | none => .st)
      | .ex e ρ2 => .ex e ρ2
      | .st => .st)
    | .ok _ _ => .st
    | .ex e ρ1 => .ex e ρ1
    | .st => .st)
  | _ => .st
def stDPut (i : Nat) (fj : Env → Out D) (d : D) (ρ : Env) : Fl := match ρ[i]? with
  | some (some (.n (.dct _) true _)) => (match fj ρ with
    | .ok (.a x) ρ2 => (match keyOf x with
      | some k => (match ρ2[i]? with
        | some (some (.n (.dct ks) true xs)) => if (isF d = true ∧ isFL xs = true) ∧ xs.length < cap then .nx (ρ2.set i (some (.n (.dct (putKs ks k)) true (putXs ks xs k d)))) else .st
        | _ => .st)
      | none => .st)
    | .ok _ _ => .st
    | .ex e ρ2 => .ex e ρ2
    | .st => .st)
  | _ => .st
def gLenD : D → Option D
  | .n (.dct _) _ xs => some (.a (.int xs.length))
  | _ => none
section
variable {X : Cx} {cA : Str → Addr} {W : WX} {fa fb fc f : Env → Out D} {a b c e o ix : Expr} {pos apos cpos : Pos} {k : Option Nat}
theorem de_dict0 : DE X cA W (fun ρ => .ok (.n (.dct []) true []) ρ) (.Dict [] [] pos) := de_of pe_dnewK fun σ H Q Z L ρ r w p q nq => by
  have kn := keep_new (o := HO.dK []) nq
  have w2 := wf_new (o := HO.dK []) w nq (relL_trk r)
  exact p (.ref q) _ Z L [q] (relL_mono (fun _ z => z) (fun a u _ e => kn a u e) r) w2 ⟨q, [], [], rfl, ⟨rfl, rfl⟩, ⟨upd_same, rfl, fun z => nomatch z⟩, rfl, fun z => nomatch z⟩ (fr_new nq)
theorem de_dget {i : Nat} (hu : X.A.units + 1 < cLine) (ho : PE X o (tVar i)) (hb : DE X cA W fb b) (hs : NoSl b := by exact fun _ _ => rfl) : DE X cA W (dDGet i fb) (.Subscript o b pos) := de_of (pe_dget hu ho hb hs) fun σ H Q Z L ρ r w p => by
  unfold dDGet at p
  split at p
  · rename_i k0 o0 xs0 h0
    obtain ⟨v, _, _, _, hv, hr0, _, _, _⟩ := relL_at r h0
    refine ⟨v, hv, Z, L, ρ, r, w, ?_⟩
    cases hj : fb ρ with
    | st => rw [hj] at p; exact p
    | ex e ρ2 => rw [hj] at p; exact p
    | ok d2 ρ2 =>
      rw [hj] at p
      intro u H2 Z2 L2 fp2 r2 w2 h2 F2
      cases d2 with
      | n k o xs => exact p.elim
      | a x =>
        dsimp only at p
        split at p
        · rename_i k hk
          split at p
          · rename_i ks o1 xs hx
            split at p
            · rename_i d hd
              split at p
              · rename_i hf
                obtain ⟨e1, e2⟩ := h2
                subst e1 e2
                obtain ⟨f0, f1, f2, hr, eL⟩ := slot_now (ρ := ρ) r2 hx hv
                obtain ⟨q, vs, g, ev, hp, hl, rx, ef, hg⟩ := rep_dct hr
                obtain ⟨y, g0, g1, g2, hy, hyr, eg⟩ := (dctAt_rep (k := k) rx hl).1 d hd
                have e := repD_isF d hyr hf
                subst e
                refine ⟨q, y, ev, .inl ⟨_, k, .inl hp, keyOf_v hk, hy.symm⟩, ?_⟩
                exact p y H2 Z2 L2 [] r2 w2 hyr F2
              · exact p.elim
            · exact p.elim
          · exact p.elim
        · exact p.elim
  · exact p.elim
theorem ds_dput {i : Nat} {spos : Pos} (hu : X.A.units + 1 < cLine) (he : DE X cA W f e) (ho : PE X o (tVar i)) (hi : DE X cA W fb ix)
    (hs : swapsWith e (some (.Subscript o ix spos)) pos.line X.env = pure false := by kernel_rfl) : DS X cA W k (dBind f (stDPut i fb)) (.Assign [.Subscript o ix spos] e pos) :=
  ds_of (ps_dput hu ho hi he hs) fun T σ H Z L ρ r w p => bind_te r w p fun d ρ1 v H1 Z1 L1 fp hd r1 w1 h1 F1 p => by
    unfold stDPut at p
    split at p
    · rename_i k0 xs0 h0
      obtain ⟨v0, _, _, _, hv, hr0, _, _, _⟩ := relL_at r1 h0
      refine ⟨v0, hv, Z1, L1, ρ1, r1, w1.less (List.sublist_append_right _ _), ?_⟩
      cases hj : fb ρ1 with
      | st => rw [hj] at p; exact p
      | ex e ρ2 =>
        rw [hj] at p
        exact exw (post_es p) (F1.less fun x m => by simp [m])
      | ok d2 ρ2 =>
        rw [hj] at p
        intro u H2 Z2 L2 fp2 r2 w2 h2 F2
        cases d2 with
        | n k o xs => exact p.elim
        | a x =>
          dsimp only at p
          split at p
          · rename_i k hk
            split at p
            · rename_i ks xs hx
              split at p
              · rename_i hc
                obtain ⟨⟨hfd, hfx⟩, hcap⟩ := hc
                obtain ⟨e1, e2⟩ := h2
                subst e1 e2
                have ef := repD_isF d h1 hfd
                subst ef
                have h1' := repD_wait (fp := []) w1 h1 F2
                obtain ⟨v', f0, f1, f2, hv', hr, eL, put, _⟩ := relL_at r2 hx
                rw [hv] at hv'
                cases hv'
                obtain ⟨q, vs, g, ev, hp, hl, rx, efp, _⟩ := rep_dct hr
                have eg := repL_isF xs rx hfx
                subst eg
                subst ev efp
                obtain ⟨ws, rw', lw, ew⟩ := put_rep (k := k) h1' rx hl
                have lx := repL_len rx
                refine ⟨q, upd H2 q (.dK (putK (ks.zip vs) k v)), rfl, .inl ⟨_, k, hp, keyOf_v hk, ?_, rfl⟩, ?_⟩
                · rw [List.length_zip, hl, Nat.min_self, lx]
                  exact cap_lt hcap
                · rw [ew]
                  have qz : ¬ Z2 q := w2.dj q (by rw [eL]; simp)
                  have nd := w2.nd
                  rw [List.nil_append, eL] at nd
                  have nd1 := List.nodup_append.mp nd
                  have nd2 := List.nodup_append.mp nd1.1
                  have q0 : q ∉ f0 := fun m => nd2.2.2 q m q (by simp) rfl
                  have q2 : q ∉ f2 := fun m => nd1.2.2 q (by simp) q m rfl
                  have kn : ∀ a o, a ≠ q → H2 a = some o → upd H2 q (.dK ((putKs ks k).zip ws)) a = some o := fun a o n e => by rw [upd_ne n]; exact e
                  have rep' : RepD X.K cA (upd H2 q (.dK ((putKs ks k).zip ws))) Z2 (.n (.dct (putKs ks k)) true (putXs ks xs k d)) (.ref q) [q] := ⟨q, ws, [], rfl, repL_mono _ (fun _ z => z) (fun a o m e => kn a o (fun z => by
                    subst z
                    exact m.elim qz (fun m => nomatch m)) e) rw', ⟨upd_same, lw, fun z => nomatch z⟩, rfl, fun z => nomatch z⟩
                  have pr := put (H' := upd H2 q (.dK ((putKs ks k).zip ws))) (Z' := Z2) (fun _ z => z) (fun a o m e => kn a o (fun z => by
                    subst z
                    rcases m with m | m | m
                    · exact qz m
                    · exact q0 m
                    · exact q2 m) e) rep'
                  rw [set_same hv] at pr
                  have F12 := F1.trans F2
                  refine p σ _ Z2 _ pr ⟨by rw [eL] at w2; exact w2.nd, fun a m => w2.dj a (by rw [eL]; exact m), fun a z => ?_⟩ ⟨fun a o e n => ?_, F12.zm, F12.zs, fun a m => F12.ls a (by rw [eL]; exact m)⟩ Pin.refl
                  · obtain ⟨o, e⟩ := w2.tz a z
                    by_cases h : a = q
                    · subst h; exact absurd z qz
                    · exact ⟨o, kn a o h e⟩
                  · have h3 := F12.keep a o e n
                    by_cases h : a = q
                    · subst h
                      rcases F12.ls a (by rw [eL]; simp) with z | z
                      · exact absurd z n
                      · rw [z] at e; cases e
                    · exact kn a o h h3
              · exact p.elim
            · exact p.elim
          · exact p.elim
    · exact p.elim
def dDisp1 (fb fc : Env → Out D) : Env → Out D := fun ρ => match fb ρ with
  | .ok (.a x) ρ1 => (match fc ρ1 with
    | .ok d ρ2 => (match keyOf x with
      | some k => if isF d = true then .ok (.n (.dct [k]) true [d]) ρ2 else .st
      | none => .st)
    | .ex e ρ2 => .ex e ρ2
    | .st => .st)
  | .ok _ _ => .st
  | .ex e ρ1 => .ex e ρ1
  | .st => .st
end
end DL
namespace DL
open PySem L2
theorem room_u0 {k : Nat} {A : Around} (r : Room k A) : A.units + 1 < cLine := by have := r.un; omega
theorem dss_st {X : Cx} {cA : Str → Addr} {W : WX} {k : Option Nat} {st : List Stmt} : DSs X cA W k (fun _ => .st) st := ⟨fun pins s σ H D I ⟨_, _, _, _, _, p⟩ => p.elim⟩
section
variable {P : Program} {w : World} {K : PySem.W.Frag} {cA : Str → Addr} {mg : Str → Option Value} {base : Heap}
theorem okC_st {x qual : Str} {params : Arguments} {stb : List Stmt} {scope : Scope} {f : Addr} {N ps : List Str} {k n m : Nat} {kio : Option Nat} (F : ∃ fd, FunD K x qual params stb scope [] [] f fd) (S : FnScope N ps scope)
    (hbi : ∀ (kV doc pm : Value) (an : Option Addr) (cdv ct : Value) (us : List Value), us.length = ps.length → bindArgs (PySem.W.fnOf x qual params stb scope .none kV doc pm an cdv ct) ⟨us, []⟩ = pure (ps.zip us)) (hn : ps.length = n := by kernel_rfl) :
    OkC P w K mg base f ps (k + 1) (spF K cA n kio fun _ => .st) :=
  fn_okD (m := N.length) (kio := kio) (body := fun _ => .st) (k := k) F S hbi (fun _ _ _ _ _ _ _ => dss_st) hn rfl
end
end DL
namespace DL
open PySem L2
section
variable {X : Cx} {cA : Str → Addr} {W : WX} {f : Env → Out D}
def dFzB (i : Nat) (f : Env → Fl) : Env → Fl := fun ρ => match ρ[i]? with
  | some (some d) => f (ρ.set i (some (frz d)))
  | _ => f ρ
end
end DL
namespace DL
open PySem L2
section
variable {X : Cx} {cA : Str → Addr} {W : WX} {fb : Env → Out D} {b o : Expr} {pos : Pos}
theorem te_din {K : PySem.W.Frag} {i : Nat} : ∀ σ H Q, TEof K cA W (dDIn false i fb) σ H Q → tDIn (TEof K cA W fb) (tVar i) σ H Q := by
  rintro σ H Q ⟨Z, L, ρ, r, w, p⟩
  refine ⟨Z, L, ρ, r, w, ?_⟩
  unfold dDIn at p
  cases hj : fb ρ with
  | st => rw [hj] at p; exact p
  | ex e ρ2 => rw [hj] at p; exact p
  | ok d2 ρ2 =>
    rw [hj] at p
    intro u H2 Z2 L2 fp2 r2 w2 h2 F2
    cases d2 with
    | n k o xs => exact p.elim
    | a x =>
      dsimp only at p
      split at p
      · rename_i k hk
        split at p
        · rename_i ks o1 xs hx
          split at p
          · rename_i hlen
            obtain ⟨e1, e2⟩ := h2
            subst e1 e2
            obtain ⟨v, _, _, _, hv, hr, _, _, _⟩ := relL_at r2 hx
            obtain ⟨q, vs, g, ev, hp, hl, rx, ef, hg⟩ := rep_dct hr
            subst ev
            refine ⟨_, hv, q, valV (ks.zip vs) k, rfl, .inl ⟨_, k, .inl hp, keyOf_v hk, rfl⟩, ?_⟩
            have hb : (valV (ks.zip vs) k).isSome = hasK k ks := by rw [← valV_any, any_zip hl]
            rw [hb]
            exact p _ H2 Z2 L2 [] r2 w2 ⟨rfl, rfl⟩ F2
          · exact p.elim
        · exact p.elim
      · exact p.elim
theorem te_dnotin {K : PySem.W.Frag} {i : Nat} : ∀ σ H Q, TEof K cA W (dDIn true i fb) σ H Q → tDNotIn (TEof K cA W fb) (tVar i) σ H Q := by
  rintro σ H Q ⟨Z, L, ρ, r, w, p⟩
  refine ⟨Z, L, ρ, r, w, ?_⟩
  unfold dDIn at p
  cases hj : fb ρ with
  | st => rw [hj] at p; exact p
  | ex e ρ2 => rw [hj] at p; exact p
  | ok d2 ρ2 =>
    rw [hj] at p
    intro u H2 Z2 L2 fp2 r2 w2 h2 F2
    cases d2 with
    | n k o xs => exact p.elim
    | a x =>
      dsimp only at p
      split at p
      · rename_i k hk
        split at p
        · rename_i ks o1 xs hx
          split at p
          · rename_i hlen
            obtain ⟨e1, e2⟩ := h2
            subst e1 e2
            obtain ⟨v, _, _, _, hv, hr, _, _, _⟩ := relL_at r2 hx
            obtain ⟨q, vs, g, ev, hp, hl, rx, ef, hg⟩ := rep_dct hr
            subst ev
            refine ⟨_, hv, q, valV (ks.zip vs) k, rfl, .inl ⟨_, k, .inl hp, keyOf_v hk, rfl⟩, ?_⟩
            have hb : (valV (ks.zip vs) k).isSome = hasK k ks := by rw [← valV_any, any_zip hl]
            rw [hb]
            exact p _ H2 Z2 L2 [] r2 w2 ⟨rfl, rfl⟩ F2
          · exact p.elim
        · exact p.elim
      · exact p.elim
theorem dt_din {i : Nat} (hu : X.A.units + 1 < cLine) (ho : PE X o (tVar i)) (hb : DE X cA W fb b) (hm : behindInMarks .In o = false := by kernel_rfl) : DT X cA W (dB (dDIn false i fb)) (.Compare b [.In] [o] pos) :=
  PT.imp (pt_cmp (pc_din hu hb ho) hm) (tt_of te_din)
theorem dt_dnotin {i : Nat} (hu : X.A.units + 1 < cLine) (ho : PE X o (tVar i)) (hb : DE X cA W fb b) (hm : behindInMarks .NotIn o = false := by kernel_rfl) : DT X cA W (dB (dDIn true i fb)) (.Compare b [.NotIn] [o] pos) :=
  PT.imp (pt_cmp (pc_dnotin hu hb ho) hm) (tt_of te_dnotin)
end
end DL
namespace DL
open PySem L2
theorem ints_are : ∀ {ns : List Int} {us : List Value}, Vals (ns.map V.int) us → PyProof.Rows.IntsAre us ns
  | [], us, h => by
    cases us with
    | nil => exact .nil
    | cons u us => cases h
  | n :: ns, us, h => by
    cases h with
    | cons r h =>
      obtain ⟨t, rfl⟩ := r
      exact .cons n t (ints_are h)
def rSumT (K : PySem.W.Frag) : List V → Hp → VK → Prop := fun vs H Q => ∃ (a : Addr) (ns : List Int), vs = [V.ref a] ∧ SqT K H a (ns.map V.int) ∧ Q (.int ns.sum) H
section
variable {X : Cx}
open PyProof.Rows in
theorem cr_sumT (hc : X.calm = true) : CallR X (.builtin "sum") (rSumT X.K) := by
  intro pins s σ H vs us Q I r h
  obtain ⟨a, ns, rfl, hs, q⟩ := h
  obtain ⟨its, rv, hl, _⟩ := I.tuple hs
  rw [Vals.ref1 r]
  have hi := ints_are rv
  obtain ⟨xs, e⟩ := hi.allInts.items
  have hn : numsOf (intItems xs).toList = ns := by rw [← e]; exact hi.numsOf
  rw [nums_intItems] at hn
  rw [e] at hl
  refine PySem.W.ktm_sumG (I.ok.hd hc) hl fun h' tk t' hk => ?_
  refine ⟨.int _, H, I.kept hk, ⟨t', ?_⟩, q⟩
  rw [preSum_eq, List.take_of_length_le (by simp), hn]
end
section
variable {K : PySem.W.Frag} {cA : Str → Addr}
end
section
variable {X : Cx} {cA : Str → Addr} {W : WX} {fa fb : Env → Out D} {a b : Expr} {p pos : Pos}
end
end DL
namespace DL
open PySem L2
def rSortedIT (K : PySem.W.Frag) : List V → Hp → VK → Prop := fun vs H Q => ∃ (a : Addr) (ns : List Int), vs = [V.ref a] ∧ SqT K H a (ns.map V.int) ∧
  ∀ (ns' : List Int) (p : Addr), ns'.Perm ns → ns'.Pairwise (· ≤ ·) → H p = none → Q (.ref p) (upd H p (.lst (ns'.map V.int)))
section
variable {X : Cx}
open PyProof.Rows SrtO in
theorem cr_sortedIT : CallR X (.builtin "sorted") (rSortedIT X.K) := by
  intro pins s σ H vs us Q I r h
  obtain ⟨a, ns, rfl, hs, q⟩ := h
  obtain ⟨its, rv, hl, hz⟩ := I.tuple hs
  rw [Vals.ref1 r]
  have hi := ints_are rv
  obtain ⟨o, ho, hc, n, hd⟩ := hl
  have hz' : its.length ≤ sizeLine := by rw [← rv.length]; exact hz
  refine Calls.call_function_entry kind_sorted plain_sorted entry_sorted (args_sorted1 _) ?_
  unfold Builtin.«sorted»
  refine wpAny_bind (m := checkCount "sorted" 1 1 _) (wpAny_pure ?_)
  refine wpAny_bind (wpAny_collect_seq a (.inr rfl) ho hc hd (fun h' hk => ?_) (by simpa using hz'))
  have I2 : Inv X pins σ H { s with heap := h' } := I.kept (t' := s.toks) hk
  refine wpAny_bind (wpAny_newList ?_ hz')
  have hoL : (h'.push (seqObj "list" its.toArray 0)).get? h'.objs.size = some (seqObj "list" its.toArray 0) := Heap.get?_push_size _ rfl
  show wpAny _ _ _ _ _ { s with heap := h'.push (seqObj "list" its.toArray 0) }
  refine wpAny_bind (wpAny_holding (wpAny_call_entry slot_list_sort ⟨_, hoL, rfl⟩ entry_list_sort (list_sort_ord swo_int hoL hz' (fun h2 => ints_sortable hi h2) fun out h1 h2 => ⟨_, rfl, ?_⟩) (args_list_sort _)))
  obtain ⟨k1, k2, k3⟩ := ints_out hi h1 h2
  obtain ⟨ep, he'⟩ := sortedHeap_at (out := out.toArray) hoL
  have hlen : ((out.map iv).map V.int).length ≤ sizeLine := by
    rw [List.length_map, k2.length_eq]
    rw [List.length_map] at hz
    exact hz
  refine wpAny_pure ⟨_, rfl, .ref _, upd H h'.objs.size (.lst ((out.map iv).map V.int)), I2.laid (t' := s.toks) (fun b u hb => ?_) (Nat.le_refl _) ⟨hlen, out, ep, vals_of_ints k1, he'⟩, rfl, q _ _ k2 k3 (I2.hok.fresh (Nat.le_refl _))⟩
  have hlt : b < h'.objs.size := Heap.lt_size hb
  exact (sortedHeap_old (Nat.ne_of_lt hlt) (by rw [Heap.size_push]; exact Nat.lt_succ_of_lt hlt)).trans (Heap.get?_push_of_some _ hb)
end
section
variable {K : PySem.W.Frag} {cA : Str → Addr}
end
section
variable {X : Cx} {cA : Str → Addr} {W : WX} {fa fb : Env → Out D} {a b : Expr} {p pos : Pos}
end
section
variable {prog : Program} {w : World} {A : Around} {E : Value → Shared → Prop} {s : Shared}
end
section
variable {K : PySem.W.Frag} {cA : Str → Addr}
end
section
variable {X : Cx} {cA : Str → Addr} {W : WX} {f : Env → Out D} {e : Expr} {p pos tpos : Pos} {elts : List Expr} {kk : Nat}
end
end DL
namespace DL
open PySem L2
def dDGetE (fa fb : Env → Out D) : Env → Out D := fun ρ => match fa ρ with
  | .ok (.n (.dct ks) _ xs) ρ1 => (match fb ρ1 with
    | .ok (.a x) ρ2 => (match keyOf x with
      | some k => (match dctAt ks xs k with
        | some d => if isF d = true then .ok d ρ2 else .st
        | none => .st)
      | none => .st)
    | .ok _ _ => .st
    | .ex e ρ2 => .ex e ρ2
    | .st => .st)
  | .ok _ _ => .st
  | .ex e ρ1 => .ex e ρ1
  | .st => .st
section
variable {X : Cx} {cA : Str → Addr} {W : WX} {fa fb : Env → Out D} {b o : Expr} {pos : Pos}
end
end DL
namespace DL
open PySem L2
def gDivm (d1 d2 : D) : Option D := match d1, d2 with
  | .a (.int i), .a (.int j) => if 0 < j ∧ j < 1073741824 then some (.tup [.int (i / j), .int (i % j)]) else none
  | _, _ => none
section
variable {X : Cx} {cA : Str → Addr} {W : WX} {fa fb : Env → Out D} {a b : Expr} {pos p p2 pos2 : Pos}
end
end DL
namespace DL
open PySem L2
def SO {α : Type} (o : Option α) (P : α → Prop) : Prop := match o with
  | some x => P x
  | none => False
@[simp] theorem so_some {α : Type} {x : α} {P : α → Prop} : SO (some x) P = P x := rfl
@[simp] theorem so_none {α : Type} {P : α → Prop} : SO none P = False := rfl
@[simp] theorem so_ite {α : Type} {c : Prop} [Decidable c] {a b : Option α} {P : α → Prop} : SO (if c then a else b) P = (if c then SO a P else SO b P) := by split <;> rfl
def WO {α : Type} (E : Exn → DL.Env → Prop) (P : α → DL.Env → Prop) : Out α → Prop
  | .ok x ρ => P x ρ
  | .ex e ρ => E e ρ
  | .st => False
abbrev NoE {β : Type} : Exn → β → Prop := fun _ _ => False
@[simp] theorem wo_ok {α : Type} {E : Exn → DL.Env → Prop} {P : α → DL.Env → Prop} {x : α} {ρ : DL.Env} : WO E P (.ok x ρ) = P x ρ := rfl
@[simp] theorem wo_ex {α : Type} {E : Exn → DL.Env → Prop} {P : α → DL.Env → Prop} {e : Exn} {ρ : DL.Env} : WO E P (.ex e ρ) = E e ρ := rfl
structure Ps where
  nx : DL.Env → Prop
  rt : D → DL.Env → Prop
  bk : DL.Env → Prop
  ct : DL.Env → Prop
  ex : Exn → DL.Env → Prop
def WP (Q : Ps) : Fl → Prop
  | .nx ρ => Q.nx ρ
  | .rt d ρ => Q.rt d ρ
  | .bk ρ => Q.bk ρ
  | .ct ρ => Q.ct ρ
  | .ex e ρ => Q.ex e ρ
  | .st => False
def WF (E : Exn → Option D → Prop) (P : D → Option D → Prop) : FR → Prop
  | .rt d io => P d io
  | .ex e io => E e io
  | .st => False
@[simp] theorem wf_rt {E : Exn → Option D → Prop} {P : D → Option D → Prop} {d : D} {io : Option D} : WF E P (.rt d io) = P d io := rfl
@[simp] theorem wf_exr {E : Exn → Option D → Prop} {P : D → Option D → Prop} {e : Exn} {io : Option D} : WF E P (.ex e io) = E e io := rfl
theorem WF.mono {E : Exn → Option D → Prop} {P R : D → Option D → Prop} {r : FR} (h : WF NoE P r) (i : ∀ d io, P d io → R d io) : WF E R r := by
  cases r with
  | rt d io => exact i d io h
  | ex e io => exact h.elim
  | st => exact h
theorem wf_eq {r : FR} {d : D} {io : Option D} (h : WF NoE (fun d' io' => d' = d ∧ io' = io) r) : r = .rt d io := by
  cases r with
  | rt d' io' => obtain ⟨a, b⟩ := h; subst a b; rfl
  | ex e io => exact h.elim
  | st => exact h.elim
theorem wf_ex {P : D → Option D → Prop} {r : FR} (h : WF NoE P r) : ∃ d io, r = .rt d io ∧ P d io := by
  cases r with
  | rt d' io' => exact ⟨_, _, rfl, h⟩
  | ex e io => exact h.elim
  | st => exact h.elim
section
variable {E : Exn → DL.Env → Prop} {P : D → DL.Env → Prop} {PB : Bool → DL.Env → Prop} {PA : List Ag → DL.Env → Prop} {PL : List D → DL.Env → Prop} {ρ : DL.Env} {i j n : Nat} {f fa fb : DL.Env → Out D} {t u : DL.Env → Out Bool} {g : DL.Env → Out (List Ag)} {x : At}
@[simp] theorem w_C : WO E P (dC x ρ) = P (.a x) ρ := rfl
@[simp] theorem w_Var : WO E P (dVar i ρ) = SO (ρ[i]?) (fun o => SO o fun d => isF d = true ∧ P d ρ) := by
  unfold dVar
  split
  · rename_i d h
    rw [h]
    split
    · rename_i h2; simp [h2]
    · rename_i h2; simp [h2, WO]
  · rename_i h
    cases e : ρ[i]? with
    | none => rfl
    | some o =>
      cases o with
      | none => rfl
      | some d => exact absurd e (h d)
@[simp] theorem w_Peek : WO E P (dPeek i ρ) = SO (ρ[i]?) (fun o => SO o fun d => P d ρ) := by
  unfold dPeek
  split
  · rename_i d h
    rw [h]; rfl
  · rename_i h
    cases e : ρ[i]? with
    | none => rfl
    | some o =>
      cases o with
      | none => rfl
      | some d => exact absurd e (h d)
@[simp] theorem w_Fz : WO E P (dFz f ρ) = WO E (fun d ρ1 => P (frz d) ρ1) (f ρ) := by
  unfold dFz; cases f ρ <;> rfl
@[simp] theorem w_Op2 {g : D → D → Option D} : WO E P (dOp2 g fa fb ρ) = WO E (fun d1 ρ1 => WO E (fun d2 ρ2 => SO (g d1 d2) fun d => P d ρ2) (fb ρ1)) (fa ρ) := by
  unfold dOp2
  cases fa ρ with
  | st => rfl
  | ex e ρ1 => rfl
  | ok d1 ρ1 =>
    dsimp only [wo_ok]
    cases fb ρ1 with
    | st => rfl
    | ex e ρ2 => rfl
    | ok d2 ρ2 =>
      dsimp only [wo_ok]
      cases g d1 d2 <;> rfl
@[simp] theorem w_U {g : D → Option D} : WO E P (dU g fa ρ) = WO E (fun d1 ρ1 => SO (g d1) fun d => P d ρ1) (fa ρ) := by
  unfold dU
  cases fa ρ with
  | st => rfl
  | ex e ρ1 => rfl
  | ok d1 ρ1 => dsimp only [wo_ok]; cases g d1 <;> rfl
def asB (d : D) (P : Bool → Prop) : Prop := match d with
  | .a (.bl b) => P b
  | _ => False
@[simp] theorem asB_bl {b : Bool} {P : Bool → Prop} : asB (.a (.bl b)) P = P b := rfl
def asI (d : D) (P : Int → Prop) : Prop := match d with
  | .a (.int b) => P b
  | _ => False
@[simp] theorem asI_int {b : Int} {P : Int → Prop} : asI (.a (.int b)) P = P b := rfl
@[simp] theorem w_B : WO E PB (dB f ρ) = WO E (fun d ρ1 => asB d fun b => PB b ρ1) (f ρ) := by
  unfold dB
  cases f ρ with
  | st => rfl
  | ex e ρ1 => rfl
  | ok d ρ1 =>
    cases d with
    | n _ _ _ => rfl
    | a x => cases x <;> rfl
@[simp] theorem w_AndT : WO E PB (dAndT t u ρ) = WO E (fun b ρ1 => if b = true then WO E PB (u ρ1) else PB false ρ1) (t ρ) := by
  unfold dAndT
  cases t ρ with
  | st => rfl
  | ex e ρ1 => rfl
  | ok b ρ1 => cases b <;> rfl
@[simp] theorem w_OrT : WO E PB (dOrT t u ρ) = WO E (fun b ρ1 => if b = true then PB true ρ1 else WO E PB (u ρ1)) (t ρ) := by
  unfold dOrT
  cases t ρ with
  | st => rfl
  | ex e ρ1 => rfl
  | ok b ρ1 => cases b <;> rfl
@[simp] theorem w_NotT : WO E PB (dNotT t ρ) = WO E (fun b ρ1 => PB (!b) ρ1) (t ρ) := by
  unfold dNotT
  cases t ρ <;> rfl
@[simp] theorem w_AndV : WO E P (dAndV fa fb ρ) = WO E (fun d ρ1 => asB d fun b => if b = true then WO E P (fb ρ1) else P (.a (.bl false)) ρ1) (fa ρ) := by
  rw [← w_B]
  unfold dAndV
  cases dB fa ρ with
  | st => rfl
  | ex e ρ1 => rfl
  | ok b ρ1 => cases b <;> rfl
@[simp] theorem w_OrV : WO E P (dOrV fa fb ρ) = WO E (fun d ρ1 => asB d fun b => if b = true then P (.a (.bl true)) ρ1 else WO E P (fb ρ1)) (fa ρ) := by
  rw [← w_B]
  unfold dOrV
  cases dB fa ρ with
  | st => rfl
  | ex e ρ1 => rfl
  | ok b ρ1 => cases b <;> rfl
@[simp] theorem w_NotV : WO E P (dNotV fa ρ) = WO E (fun d ρ1 => asB d fun b => P (.a (.bl (!b))) ρ1) (fa ρ) := by
  rw [← w_B]
  unfold dNotV
  cases dB fa ρ <;> rfl
@[simp] theorem w_IfE : WO E P (dIfE t fa fb ρ) = WO E (fun b ρ1 => if b = true then WO E P (fa ρ1) else WO E P (fb ρ1)) (t ρ) := by
  unfold dIfE
  cases t ρ with
  | st => rfl
  | ex e ρ1 => rfl
  | ok b ρ1 => cases b <;> rfl
@[simp] theorem w_ANil : WO E PA (dANil ρ) = PA [] ρ := rfl
@[simp] theorem w_ACons : WO E PA (dACons f g ρ) = WO E (fun d ρ1 => WO E (fun ds ρ2 => PA (.d d :: ds) ρ2) (g ρ1)) (f ρ) := by
  unfold dACons
  cases f ρ with
  | st => rfl
  | ex e ρ1 => rfl
  | ok d ρ1 => dsimp only [wo_ok]; cases g ρ1 <;> rfl
@[simp] theorem w_ALent : WO E PA (dALent i g ρ) = SO (ρ[i]?) (fun o => SO o fun _ => WO E (fun ds ρ2 => PA (.s i :: ds) ρ2) (g ρ)) := by
  unfold dALent
  split
  · rename_i d h
    rw [h]
    dsimp only [so_some]
    cases g ρ <;> rfl
  · rename_i h
    cases e : ρ[i]? with
    | none => rfl
    | some o =>
      cases o with
      | none => rfl
      | some d => exact absurd e (h d)
@[simp] theorem w_Tup : WO E P (dTup g ρ) = WO E (fun ds ρ1 => SO (agL ds) fun xs => xs.length ≤ cap ∧ P (.tup (frzL xs)) ρ1) (g ρ) := by
  unfold dTup
  cases g ρ with
  | st => rfl
  | ex e ρ1 => rfl
  | ok ds ρ1 =>
    dsimp only [wo_ok]
    cases agL ds with
    | none => rfl
    | some xs =>
      dsimp only [so_some]
      split
      · rename_i h; simp [h]
      · rename_i h; simp only [h, false_and]; rfl
@[simp] theorem w_Lst : WO E P (dLst g ρ) = WO E (fun ds ρ1 => SO (agL ds) fun xs => xs.length ≤ cap ∧ P (.lst true xs) ρ1) (g ρ) := by
  unfold dLst
  cases g ρ with
  | st => rfl
  | ex e ρ1 => rfl
  | ok ds ρ1 =>
    dsimp only [wo_ok]
    cases agL ds with
    | none => rfl
    | some xs =>
      dsimp only [so_some]
      split
      · rename_i h; simp [h]
      · rename_i h; simp only [h, false_and]; rfl
@[simp] theorem w_Call {F : List D → FR} : WO E P (dCall n F g ρ) = WO E (fun ds ρ1 => SO (agL ds) fun xs => xs.length = n ∧ WF (fun e _ => E e ρ1) (fun d _ => P d ρ1) (F (frzL xs))) (g ρ) := by
  unfold dCall
  cases g ρ with
  | st => rfl
  | ex e ρ1 => rfl
  | ok ds ρ1 =>
    dsimp only [wo_ok]
    cases agL ds with
    | none => rfl
    | some xs =>
      dsimp only [so_some]
      split
      · rename_i h
        simp only [h, true_and]
        cases F (frzL xs) <;> rfl
      · rename_i h; simp only [h, false_and]; rfl
@[simp] theorem w_Call0 {F : List D → FR} : WO E P (dCall0 F ρ) = WF (fun e _ => E e ρ) (fun d _ => P d ρ) (F []) := by
  unfold dCall0
  cases F [] <;> rfl
@[simp] theorem w_CallL {F : List D → FR} {kio : Option Nat} : WO E P (dCallL n kio F g ρ) = WO E (fun ds ρ1 => SO (agL1 ds) fun p => SO (ρ1[p.2.1]?) fun o => SO o fun d0 => (kio = some p.1.length ∧ p.1.length + (p.2.2.length + 1) = n) ∧ WF (fun e io => SO io fun d1 => E e (ρ1.set p.2.1 (some d1))) (fun d io => SO io fun d1 => P d (ρ1.set p.2.1 (some d1))) (F (frzL p.1 ++ (d0 :: frzL p.2.2)))) (g ρ) := by
  unfold dCallL
  cases g ρ with
  | st => rfl
  | ex e ρ1 => rfl
  | ok ds ρ1 =>
    dsimp only [wo_ok]
    cases agL1 ds with
    | none => rfl
    | some p =>
      obtain ⟨xs, i, ys⟩ := p
      dsimp only [so_some]
      cases ρ1[i]? with
      | none => rfl
      | some o =>
        cases o with
        | none => rfl
        | some d0 =>
          dsimp only [so_some]
          split
          · rename_i h
            simp only [h, and_self, true_and]
            cases F (frzL xs ++ (d0 :: frzL ys)) with
            | st => rfl
            | ex e io => cases io <;> rfl
            | rt d io => cases io <;> rfl
          · rename_i h; simp only [h, false_and]; rfl
@[simp] theorem w_Make {F : List D → FR} {C : Str} : WO E P (dMake C n F g ρ) = WO E (fun ds ρ1 => SO (agL ds) fun xs => xs.length = n ∧ WF (fun e _ => E e ρ1) (fun d io => d = .a .non ∧ SO io fun d1 => P d1 ρ1) (F (.n (.ins C []) true [] :: frzL xs))) (g ρ) := by
  unfold dMake
  cases g ρ with
  | st => rfl
  | ex e ρ1 => rfl
  | ok ds ρ1 =>
    dsimp only [wo_ok]
    cases agL ds with
    | none => rfl
    | some xs =>
      dsimp only [so_some]
      split
      · rename_i h
        simp only [h, true_and]
        cases F (.n (.ins C []) true [] :: frzL xs) with
        | st => rfl
        | ex e io => rfl
        | rt d io =>
          cases io with
          | none => cases d with
            | n _ _ _ => simp [WF, WO, SO]
            | a x => cases x <;> simp [WF, WO, SO]
          | some d1 => cases d with
            | n _ _ _ => simp [WF, WO, SO]
            | a x => cases x <;> simp [WF, WO, SO]
      · rename_i h; simp only [h, false_and]; rfl
def asIns (d : D) (P : Str → List Str → List D → Prop) : Prop := match d with
  | .n (.ins C fs) false xs => P C fs xs
  | _ => False
@[simp] theorem asIns_ins {C : Str} {fs : List Str} {xs : List D} {P : Str → List Str → List D → Prop} : asIns (.n (.ins C fs) false xs) P = P C fs xs := rfl
@[simp] theorem w_Meth {F : List D → FR} {C m : Str} : WO E P (dMeth C m n F fa g ρ) = WO E (fun d ρ1 => asIns d fun C' fs xs => (C' = C ∧ m ∉ fs ∧ isFL xs = true) ∧ WO E P (dCall n (fun ds => F (.n (.ins C fs) false xs :: ds)) g ρ1)) (fa ρ) := by
  unfold dMeth
  cases fa ρ with
  | st => rfl
  | ex e ρ1 => rfl
  | ok d ρ1 =>
    cases d with
    | a x => rfl
    | n k o xs =>
      cases k with
      | ins C' fs =>
        cases o with
        | true => rfl
        | false =>
          dsimp only [wo_ok, asIns_ins]
          split
          · rename_i h; simp only [h, and_self, true_and, not_false_eq_true]
          · rename_i h; simp only [h, false_and]; rfl
      | tup => rfl
      | lst => rfl
      | scr => rfl
      | dct ks => rfl
@[simp] theorem w_Iter : WO E PL (dIter f ρ) = WO E (fun d ρ1 => SO (itemsOf d) fun xs => isF d = true ∧ PL xs ρ1) (f ρ) := by
  unfold dIter
  cases f ρ with
  | st => rfl
  | ex e ρ1 => rfl
  | ok d ρ1 =>
    dsimp only [wo_ok]
    cases itemsOf d with
    | none => rfl
    | some xs =>
      dsimp only [so_some]
      split
      · rename_i h; simp [h]
      · rename_i h; simp [h, WO]
@[simp] theorem w_Rng1 : WO E PL (dRng1 f ρ) = WO E (fun d ρ1 => asI d fun j => (-1000000 ≤ j ∧ j ≤ 1000000) ∧ PL (intL 0 j.toNat) ρ1) (f ρ) := by
  unfold dRng1
  cases f ρ with
  | st => rfl
  | ex e ρ1 => rfl
  | ok d ρ1 =>
    cases d with
    | n _ _ _ => rfl
    | a x =>
      cases x with
      | int j =>
        dsimp only [wo_ok, asI_int]
        split
        · rename_i h; simp [h]
        · rename_i h; simp only [h, false_and]; rfl
      | non => rfl
      | bl b => rfl
      | str s => rfl
@[simp] theorem w_Rng2 : WO E PL (dRng2 fa fb ρ) = WO E (fun d ρ1 => asI d fun i => WO E (fun d2 ρ2 => asI d2 fun j => ((-1000000 ≤ i ∧ i ≤ 1000000) ∧ -1000000 ≤ j ∧ j ≤ 1000000) ∧ PL (intL i (j - i).toNat) ρ2) (fb ρ1)) (fa ρ) := by
  unfold dRng2
  cases fa ρ with
  | st => rfl
  | ex e ρ1 => rfl
  | ok d ρ1 =>
    cases d with
    | n _ _ _ => rfl
    | a x =>
      cases x with
      | int i =>
        dsimp only [wo_ok, asI_int]
        cases fb ρ1 with
        | st => rfl
        | ex e ρ2 => rfl
        | ok d2 ρ2 =>
          cases d2 with
          | n _ _ _ => rfl
          | a y =>
            cases y with
            | int j =>
              dsimp only [wo_ok, asI_int]
              split
              · rename_i h; simp [h]
              · rename_i h; simp only [h, false_and]; rfl
            | non => rfl
            | bl b => rfl
            | str s => rfl
      | non => rfl
      | bl b => rfl
      | str s => rfl
@[simp] theorem w_Dp : WO E P (dDp f ρ) = WO E (fun d ρ1 => isF d = true ∧ P d ρ1) (f ρ) := by
  unfold dDp
  cases f ρ with
  | st => rfl
  | ex e ρ1 => rfl
  | ok d ρ1 =>
    dsimp only [wo_ok]
    split
    · rename_i h; simp [h]
    · rename_i h; simp [h, WO]
@[simp] theorem w_IxP {q : DL.Env → Option At} : WO E P (dIxP fa q ρ) = WO E (fun x ρ1 => SO (q ρ1) fun k => SO (gIxO x (.a k)) fun d => P d ρ1) (fa ρ) := by
  unfold dIxP
  cases fa ρ with
  | st => rfl
  | ex e ρ1 => rfl
  | ok d ρ1 =>
    dsimp only [wo_ok]
    cases q ρ1 with
    | none => rfl
    | some k => dsimp only [so_some]; cases gIxO d (.a k) <;> rfl
@[simp] theorem w_IxS : WO E P (dIxS i fb ρ) = WO E (fun k ρ1 => SO (ρ1[i]?) fun o => SO o fun x => SO (gIxO x k) fun d => P d ρ1) (fb ρ) := by
  unfold dIxS
  cases fb ρ with
  | st => rfl
  | ex e ρ1 => rfl
  | ok k ρ1 =>
    dsimp only [wo_ok]
    cases ρ1[i]? with
    | none => rfl
    | some o =>
      cases o with
      | none => rfl
      | some x => dsimp only [so_some]; cases gIxO x k <;> rfl
@[simp] theorem w_IxV : WO E P (dIxV i fb ρ) = SO (ρ[i]?) (fun o => SO o fun _ => WO E (fun k ρ1 => SO (ρ1[i]?) fun o => SO o fun x => SO (gIxO x k) fun d => isF d = true ∧ P d ρ1) (fb ρ)) := by
  unfold dIxV
  split
  · rename_i y h
    rw [h]
    dsimp only [so_some]
    rw [← w_IxS]
    cases dIxS i fb ρ with
    | st => rfl
    | ex e ρ1 => rfl
    | ok d ρ1 =>
      dsimp only [wo_ok]
      split
      · rename_i h; simp [h]
      · rename_i h; simp [h, WO]
  · rename_i h
    cases e : ρ[i]? with
    | none => rfl
    | some o =>
      cases o with
      | none => rfl
      | some d => exact absurd e (h d)
@[simp] theorem w_PopAt : WO E P (dPopAt i fb ρ) = SO (ρ[i]?) (fun o => SO o fun x => (match x with | .n .lst true _ => True | _ => False) ∧ WO E (fun k ρ1 => asI k fun z => SO (ρ1[i]?) fun o => SO o fun x => (match x with
    | .n .lst true xs => (-1000000 ≤ z ∧ z ≤ 1000000) ∧ SO (seqIndex? z xs.length) fun j => SO (xs[j]?) fun d => P d (ρ1.set i (some (.lst true (xs.eraseIdx j))))
    | _ => False)) (fb ρ)) := by
  unfold dPopAt
  split
  · rename_i ys h
    rw [h]
    dsimp only [so_some]
    rw [true_and]
    cases fb ρ with
    | st => rfl
    | ex e ρ1 => rfl
    | ok k ρ1 =>
      cases k with
      | n _ _ _ => rfl
      | a y =>
        cases y with
        | int z =>
          dsimp only [wo_ok, asI_int]
          split
          · rename_i xs h2
            rw [h2]
            dsimp only [so_some]
            split
            · rename_i h3
              simp only [h3, and_self, true_and]
              cases seqIndex? z xs.length with
              | none => rfl
              | some j => dsimp only [so_some]; cases xs[j]? <;> rfl
            · rename_i h3; simp only [h3, false_and]; rfl
          · rename_i h2
            cases e : ρ1[i]? with
            | none => rfl
            | some o =>
              cases o with
              | none => rfl
              | some d =>
                cases d with
                | a x => rfl
                | n k o xs =>
                  cases k with
                  | lst => cases o with
                    | true => exact absurd e (h2 xs)
                    | false => rfl
                  | _ => rfl
        | non => rfl
        | bl b => rfl
        | str s => rfl
  · rename_i h
    cases e : ρ[i]? with
    | none => rfl
    | some o =>
      cases o with
      | none => rfl
      | some d =>
        cases d with
        | a x => simp [WO, SO]
        | n k o xs =>
          cases k with
          | lst => cases o with
            | true => exact absurd e (h xs)
            | false => simp [WO, SO]
          | _ => simp [WO, SO]
end
theorem dPart_some {f : DL.Env → Out D} {ρ : DL.Env} {P : Option Int → DL.Env → Prop} : WO E P (dPart (some f) ρ) = WO E (fun d ρ1 => asI d fun i => P (some i) ρ1) (f ρ) := by
  unfold dPart
  dsimp only
  cases f ρ with
  | st => rfl
  | ex e ρ1 => rfl
  | ok d ρ1 =>
    cases d with
    | n _ _ _ => rfl
    | a x => cases x <;> rfl
@[simp] theorem w_part0 {ρ : DL.Env} {P : Option Int → DL.Env → Prop} : WO E P (dPart none ρ) = P none ρ := rfl
@[simp] theorem w_part1 {f : DL.Env → Out D} {ρ : DL.Env} {P : Option Int → DL.Env → Prop} : WO E P (dPart (some f) ρ) = WO E (fun d ρ1 => asI d fun i => P (some i) ρ1) (f ρ) := dPart_some
@[simp] theorem w_Sl {P : D → DL.Env → Prop} {fa : DL.Env → Out D} {lo hi : Option (DL.Env → Out D)} {ρ : DL.Env} : WO E P (dSl fa lo hi ρ) = WO E (fun x ρ1 => WO E (fun l ρ2 => WO E (fun u ρ3 => SO (gSl x l u) fun d => P d ρ3) (dPart hi ρ2)) (dPart lo ρ1)) (fa ρ) := by
  unfold dSl
  cases fa ρ with
  | st => rfl
  | ex e ρ1 => rfl
  | ok x ρ1 =>
    dsimp only [wo_ok]
    cases dPart lo ρ1 with
    | st => rfl
    | ex e ρ2 => rfl
    | ok l ρ2 =>
      dsimp only [wo_ok]
      cases dPart hi ρ2 with
      | st => rfl
      | ex e ρ3 => rfl
      | ok u ρ3 => dsimp only [wo_ok]; cases gSl x l u <;> rfl
@[simp] theorem w_Lc {P : D → DL.Env → Prop} {vs : List Nat} {src : DL.Env → Out (List D)} {g : D → DL.Env → Option DL.Env} {t : DL.Env → Out Bool} {f : DL.Env → Out D} {ρ : DL.Env} :
    WO E P (dLc vs src g t f ρ) = WO E (fun ds ρ1 => ds.length ≤ cap ∧ WO NoE (fun ys ρ2 => P (.lst true ys) (backE ρ1 vs (wipeE ρ2 vs))) (lcL vs g t f ds (wipeE ρ1 vs))) (src ρ) := by
  unfold dLc
  cases src ρ with
  | st => rfl
  | ex e ρ1 => rfl
  | ok ds ρ1 =>
    dsimp only [wo_ok]
    split
    · rename_i h
      simp only [h, true_and]
      cases lcL vs g t f ds (wipeE ρ1 vs) <;> rfl
    · rename_i h; simp only [h, false_and]; rfl
theorem lcL_run {vs : List Nat} {g : D → DL.Env → Option DL.Env} {t : DL.Env → Out Bool} {f : DL.Env → Out D} {ρ : DL.Env} (tb : D → Bool) (fv : D → D) : ∀ (ds : List D),
    (∀ d ∈ ds, SO (g d ρ) fun ρ1 => WO NoE (fun b ρ2 => b = tb d ∧ (if tb d = true then WO NoE (fun y ρ3 => y = fv d ∧ wipeE ρ3 vs = ρ) (f ρ2) else wipeE ρ2 vs = ρ)) (t ρ1)) →
    lcL vs g t f ds ρ = .ok ((ds.filter tb).map fv) ρ
  | [], _ => rfl
  | d :: ds, h => by
    have ih := lcL_run tb fv ds fun e he => h e (List.mem_cons_of_mem _ he)
    have h0 := h d (by simp)
    unfold lcL
    cases hg : g d ρ with
    | none => rw [hg] at h0; exact h0.elim
    | some ρ1 =>
      rw [hg] at h0
      dsimp only [so_some] at h0 ⊢
      cases ht : t ρ1 with
      | st => rw [ht] at h0; exact h0.elim
      | ex e ρ2 => rw [ht] at h0; exact h0.elim
      | ok b ρ2 =>
        rw [ht] at h0
        obtain ⟨e1, h1⟩ := h0
        subst e1
        cases hb : tb d with
        | false =>
          rw [hb, if_neg Bool.false_ne_true] at h1
          dsimp only
          rw [h1, ih, List.filter_cons, hb]
          rfl
        | true =>
          rw [hb, if_pos rfl] at h1
          dsimp only
          cases hf : f ρ2 with
          | st => rw [hf] at h1; exact h1.elim
          | ex e ρ3 => rw [hf] at h1; exact h1.elim
          | ok y ρ3 =>
            rw [hf] at h1
            obtain ⟨e2, e3⟩ := h1
            subst e2
            dsimp only
            rw [e3, ih, List.filter_cons, hb]
            rfl
section
variable {Q : Ps} {ρ : DL.Env} {i j n : Nat} {f g : DL.Env → Fl} {fa fb : DL.Env → Out D} {t : DL.Env → Out Bool} {d : D}
@[simp] theorem p_nx : WP Q (.nx ρ) = Q.nx ρ := rfl
@[simp] theorem p_rt : WP Q (.rt d ρ) = Q.rt d ρ := rfl
@[simp] theorem p_Next : WP Q (dNext ρ) = Q.nx ρ := rfl
@[simp] theorem p_Break : WP Q (dBreak ρ) = Q.bk ρ := rfl
@[simp] theorem p_Cont : WP Q (dCont ρ) = Q.ct ρ := rfl
@[simp] theorem p_No : WP Q (dNo ρ) = False := rfl
@[simp] theorem p_Seq : WP Q (dSeq f g ρ) = WP ⟨fun ρ1 => WP Q (g ρ1), Q.rt, Q.bk, Q.ct, Q.ex⟩ (f ρ) := by
  unfold dSeq; cases f ρ <;> rfl
@[simp] theorem p_Bind {h : D → DL.Env → Fl} : WP Q (dBind fa h ρ) = WO Q.ex (fun d ρ1 => WP Q (h d ρ1)) (fa ρ) := by
  unfold dBind; cases fa ρ <;> rfl
@[simp] theorem p_If : WP Q (dIf t f g ρ) = WO Q.ex (fun b ρ1 => if b = true then WP Q (f ρ1) else WP Q (g ρ1)) (t ρ) := by
  unfold dIf
  cases t ρ with
  | st => rfl
  | ex e ρ1 => rfl
  | ok b ρ1 => cases b <;> rfl
@[simp] theorem p_Set : WP Q (stSet i d ρ) = (i < ρ.length ∧ Q.nx (ρ.set i (some d))) := by
  unfold stSet
  split
  · rename_i h; simp [h]
  · rename_i h; simp only [h, false_and]; rfl
@[simp] theorem p_RetMv : WP Q (dRetMv i ρ) = SO (ρ[i]?) (fun o => SO o fun d => Q.rt d (ρ.set i none)) := by
  unfold dRetMv
  split
  · rename_i d h; rw [h]; rfl
  · rename_i h
    cases e : ρ[i]? with
    | none => rfl
    | some o =>
      cases o with
      | none => rfl
      | some d => exact absurd e (h d)
def asL (d : D) (P : List D → Prop) : Prop := match d with
  | .n .lst true xs => P xs
  | _ => False
@[simp] theorem asL_lst {xs : List D} {P : List D → Prop} : asL (.n .lst true xs) P = P xs := rfl
theorem asL_cases {d : D} {P : List D → Prop} (h : ∀ xs, d ≠ .n .lst true xs) : asL d P = False := by
  cases d with
  | a x => rfl
  | n k o xs =>
    cases k with
    | lst => cases o with
      | true => exact absurd rfl (h xs)
      | false => rfl
    | _ => rfl
@[simp] theorem p_App : WP Q (stApp i d ρ) = SO (ρ[i]?) (fun o => SO o fun x => asL x fun xs => xs.length < cap ∧ Q.nx (ρ.set i (some (.lst true (xs ++ [d]))))) := by
  unfold stApp
  split
  · rename_i xs h
    rw [h]
    dsimp only [so_some, asL_lst]
    split
    · rename_i h; simp [h]
    · rename_i h; simp only [h, false_and]; rfl
  · rename_i h
    cases e : ρ[i]? with
    | none => rfl
    | some o =>
      cases o with
      | none => rfl
      | some d =>
        dsimp only [so_some]
        rw [asL_cases fun xs z => h xs (by rw [e, z])]
        rfl
@[simp] theorem p_Sub : WP Q (stSub i fb d ρ) = SO (ρ[i]?) (fun o => SO o fun x => asL x fun _ => WO Q.ex (fun k ρ2 => asI k fun z => SO (ρ2[i]?) fun o => SO o fun x => asL x fun xs => SO (ixN xs.length z) fun j => Q.nx (ρ2.set i (some (.lst true (xs.set j d))))) (fb ρ)) := by
  unfold stSub
  split
  · rename_i ys h
    rw [h]
    dsimp only [so_some, asL_lst]
    cases fb ρ with
    | st => rfl
    | ex e ρ1 => rfl
    | ok k ρ1 =>
      cases k with
      | n _ _ _ => rfl
      | a y =>
        cases y with
        | int z =>
          dsimp only [wo_ok, asI_int]
          split
          · rename_i xs h2
            rw [h2]
            dsimp only [so_some, asL_lst]
            cases ixN xs.length z <;> rfl
          · rename_i h2
            cases e : ρ1[i]? with
            | none => rfl
            | some o =>
              cases o with
              | none => rfl
              | some d =>
                dsimp only [so_some]
                rw [asL_cases fun xs z => h2 xs (by rw [e, z])]
                rfl
        | non => rfl
        | bl b => rfl
        | str s => rfl
  · rename_i h
    cases e : ρ[i]? with
    | none => rfl
    | some o =>
      cases o with
      | none => rfl
      | some d =>
        dsimp only [so_some]
        rw [asL_cases fun xs z => h xs (by rw [e, z])]
        rfl
@[simp] theorem p_Tg {g : D → DL.Env → Option DL.Env} : WP Q (stTg g d ρ) = SO (g d ρ) Q.nx := by
  unfold stTg; cases g d ρ <;> rfl
@[simp] theorem s_tg1 {P : DL.Env → Prop} : SO (tg1 i d ρ) P = (i < ρ.length ∧ P (ρ.set i (some d))) := by
  unfold tg1
  split
  · rename_i h; simp [h]
  · rename_i h; simp [h]
@[simp] theorem tgT_tup {is : List Nat} {o : Bool} {xs : List D} : tgT is (.n .tup o xs) ρ = tgL is xs ρ := rfl
@[simp] theorem tgL_nil : tgL [] [] ρ = some ρ := rfl
@[simp] theorem s_tgL {P : DL.Env → Prop} {is : List Nat} {ds : List D} : SO (tgL (i :: is) (d :: ds) ρ) P = (i < ρ.length ∧ SO (tgL is ds (ρ.set i (some d))) P) := by
  conv => lhs; unfold tgL
  split
  · rename_i h; simp [h]
  · rename_i h; simp [h]
@[simp] theorem p_Has : WP Q (dHas i f ρ) = SO (ρ[i]?) (fun o => SO o fun x => (match x with | .n .lst _ _ => True | _ => False) ∧ WP Q (f ρ)) := by
  unfold dHas
  split
  · rename_i o xs h
    rw [h]
    simp
  · rename_i h
    cases e : ρ[i]? with
    | none => rfl
    | some o =>
      cases o with
      | none => rfl
      | some d =>
        cases d with
        | a x => simp [WP, SO]
        | n k o xs =>
          cases k with
          | lst => exact absurd e (h o xs)
          | _ => simp [WP, SO]
def frzAt (i : Nat) (ρ : DL.Env) : DL.Env := match ρ[i]? with
  | some (some d) => ρ.set i (some (frz d))
  | _ => ρ
@[simp] theorem frzAt_some {d : D} (h : ρ[i]? = some (some d)) : frzAt i ρ = ρ.set i (some (frz d)) := by
  unfold frzAt; rw [h]
@[simp] theorem frzAt_none (h : ρ[i]? = some none) : frzAt i ρ = ρ := by
  unfold frzAt; rw [h]
@[simp] theorem p_Frz : WP Q (dFrz i f ρ) = WP ⟨fun ρ1 => Q.nx (frzAt i ρ1), Q.rt, Q.bk, Q.ct, Q.ex⟩ (f ρ) := by
  unfold dFrz
  rw [p_Seq]
  congr 2
  funext ρ1
  unfold frzAt
  cases e : ρ1[i]? with
  | none => simp
  | some o => cases o <;> simp
@[simp] theorem p_Fld {C x : Str} : WP Q (stFld C x i d ρ) = SO (ρ[i]?) (fun o => SO o fun y => (match y with
    | .n (.ins C' fs) true xs => (C' = C ∧ x ∉ fs ∧ xs.length < 900) ∧ Q.nx (ρ.set i (some (.n (.ins C (fs ++ [x])) true (xs ++ [d]))))
    | _ => False)) := by
  unfold stFld
  split
  · rename_i C' fs xs h
    rw [h]
    dsimp only [so_some]
    split
    · rename_i h; simp only [h, and_self, true_and, not_false_eq_true]; rfl
    · rename_i h; simp only [h, false_and]; rfl
  · rename_i h
    cases e : ρ[i]? with
    | none => rfl
    | some o =>
      cases o with
      | none => rfl
      | some d =>
        cases d with
        | a x => rfl
        | n k o xs =>
          cases k with
          | ins C' fs => cases o with
            | true => exact absurd e (h C' fs xs)
            | false => rfl
          | _ => rfl
@[simp] theorem p_For {src : DL.Env → Out (List D)} {g : D → DL.Env → Option DL.Env} : WP Q (dFor src g f ρ) = WO Q.ex (fun ds ρ1 => WP Q (forL g f ds ρ1)) (src ρ) := by
  unfold dFor; cases src ρ <;> rfl
theorem wp_for {g : D → DL.Env → Option DL.Env} {ds : List D} (I : Nat → DL.Env → Prop) (h0 : I 0 ρ)
    (hs : ∀ i d ρ, ds[i]? = some d → I i ρ → SO (g d ρ) fun ρ1 => WP ⟨I (i + 1), Q.rt, Q.nx, I (i + 1), Q.ex⟩ (f ρ1)) (he : ∀ ρ, I ds.length ρ → Q.nx ρ) : WP Q (forL g f ds ρ) := by
  have key : ∀ (es : List D) (k : Nat) (ρ : DL.Env), (∀ i, es[i]? = ds[k + i]?) → k + es.length = ds.length → I k ρ → WP Q (forL g f es ρ) := by
    intro es
    induction es with
    | nil =>
      intro k ρ _ hl hI
      have : k = ds.length := by simpa using hl
      subst this
      exact he ρ hI
    | cons d es ih =>
      intro k ρ hd hl hI
      have h1 : ds[k]? = some d := by
        have := hd 0
        simpa using this.symm
      have h2 := hs k d ρ h1 hI
      have nxt : ∀ ρ2, I (k + 1) ρ2 → WP Q (forL g f es ρ2) := fun ρ2 hI2 => ih (k + 1) ρ2 (fun i => by
        have := hd (i + 1)
        rw [List.getElem?_cons_succ] at this
        rw [this]
        congr 1
        omega) (by simp at hl; omega) hI2
      unfold forL
      cases hg : g d ρ with
      | none => rw [hg] at h2; exact h2.elim
      | some ρ1 =>
        rw [hg] at h2
        dsimp only [so_some] at h2 ⊢
        cases hb : f ρ1 with
        | nx ρ2 => rw [hb] at h2; exact nxt ρ2 h2
        | ct ρ2 => rw [hb] at h2; exact nxt ρ2 h2
        | bk ρ2 => rw [hb] at h2; exact h2
        | rt d ρ2 => rw [hb] at h2; exact h2
        | ex e ρ2 => rw [hb] at h2; exact h2
        | st => rw [hb] at h2; exact h2
  exact key ds 0 ρ (fun i => by rw [Nat.zero_add]) (by omega) h0
end
theorem wf_fn {n : Nat} {kio : Option Nat} {body : DL.Env → Fl} {ds : List D} {E : Exn → Option D → Prop} {P : D → Option D → Prop} : WF E P (fnD n kio body ds) = WP ⟨fun ρ => P .non (ioOf kio ρ), fun d ρ => P d (ioOf kio ρ), fun _ => False, fun _ => False, fun e ρ => E e (ioOf kio ρ)⟩ (body (ds.map some ++ List.replicate (n - ds.length) none)) := by
  unfold fnD
  cases body (ds.map some ++ List.replicate (n - ds.length) none) <;> rfl
section
variable {i j : Int} {a b : Bool} {P : D → Prop}
@[simp] theorem o_add : SO (gAdd (.a (.int i)) (.a (.int j))) P = P (.a (.int (i + j))) := rfl
@[simp] theorem o_sub : SO (gSub (.a (.int i)) (.a (.int j))) P = P (.a (.int (i - j))) := rfl
@[simp] theorem o_mul : SO (gMul (.a (.int i)) (.a (.int j))) P = (mulOk i j = true ∧ P (.a (.int (i * j)))) := by
  unfold gMul gOr gMulI gII
  cases h : mulOk i j <;> simp [h, gRep]
@[simp] theorem o_fdiv : SO (gFdiv (.a (.int i)) (.a (.int j))) P = (divOk i j = true ∧ P (.a (.int (i / j)))) := by
  unfold gFdiv gII
  cases h : divOk i j <;> simp [h]
@[simp] theorem o_mod : SO (gMod (.a (.int i)) (.a (.int j))) P = (0 < j ∧ P (.a (.int (i % j)))) := by
  unfold gMod gII
  by_cases h : 0 < j <;> simp [h]
@[simp] theorem o_shl : SO (gShl (.a (.int i)) (.a (.int j))) P = (powOk i j = true ∧ P (.a (.int (i * 2 ^ j.toNat)))) := by
  unfold gShl gII
  cases h : powOk i j <;> simp [h]
@[simp] theorem o_shr : SO (gShr (.a (.int i)) (.a (.int j))) P = (0 ≤ j ∧ P (.a (.int (i / 2 ^ j.toNat)))) := by
  unfold gShr gII
  by_cases h : 0 ≤ j <;> simp [h]
@[simp] theorem o_and : SO (gAnd (.a (.int i)) (.a (.int j))) P = P (.a (.int (Builtin.bitAnd i j))) := rfl
@[simp] theorem o_or : SO (gOrB (.a (.int i)) (.a (.int j))) P = P (.a (.int (Builtin.bitOr i j))) := rfl
@[simp] theorem o_lt : SO (gLt (.a (.int i)) (.a (.int j))) P = P (.a (.bl (decide (i < j)))) := rfl
@[simp] theorem o_le : SO (gLe (.a (.int i)) (.a (.int j))) P = P (.a (.bl (decide (i ≤ j)))) := rfl
@[simp] theorem o_gt : SO (gGt (.a (.int i)) (.a (.int j))) P = P (.a (.bl (decide (j < i)))) := rfl
@[simp] theorem o_ge : SO (gGe (.a (.int i)) (.a (.int j))) P = P (.a (.bl (decide (j ≤ i)))) := rfl
@[simp] theorem o_eqI : SO (gEq (.a (.int i)) (.a (.int j))) P = P (.a (.bl (decide (i = j)))) := by
  show P (.a (.bl (decide (At.int i = At.int j)))) = _
  congr 3
  simp
@[simp] theorem o_neI : SO (gNe (.a (.int i)) (.a (.int j))) P = P (.a (.bl (!decide (i = j)))) := by
  show P (.a (.bl (!decide (At.int i = At.int j)))) = _
  congr 4
  simp
@[simp] theorem o_eqB : SO (gEq (.a (.bl a)) (.a (.bl b))) P = P (.a (.bl (decide (a = b)))) := by
  show P (.a (.bl (decide (At.bl a = At.bl b)))) = _
  congr 3
  simp
@[simp] theorem o_neB : SO (gNe (.a (.bl a)) (.a (.bl b))) P = P (.a (.bl (!decide (a = b)))) := by
  show P (.a (.bl (!decide (At.bl a = At.bl b)))) = _
  congr 4
  simp
@[simp] theorem o_abs : SO (gAbs (.a (.int i))) P = P (.a (.int (if i < 0 then -i else i))) := rfl
@[simp] theorem o_neg : SO (gNeg (.a (.int i))) P = P (.a (.int (-i))) := rfl
@[simp] theorem o_int : SO (gInt (.a (.int i))) P = P (.a (.int i)) := rfl
@[simp] theorem o_bits : SO (gBits (.a (.int i))) P = P (.a (.int (Builtin.Int.intBits i : Nat))) := rfl
@[simp] theorem o_lenL {o : Bool} {xs : List D} : SO (gLen (.n .lst o xs)) P = P (.a (.int xs.length)) := rfl
@[simp] theorem o_lenT {o : Bool} {xs : List D} : SO (gLen (.n .tup o xs)) P = P (.a (.int xs.length)) := rfl
@[simp] theorem o_tupT {o : Bool} {xs : List D} : SO (gTuple (.n .tup o xs)) P = P (.tup xs) := rfl
@[simp] theorem o_tupL {o : Bool} {xs : List D} : SO (gTuple (.n .lst o xs)) P = (isFL xs = true ∧ P (.tup xs)) := by
  unfold gTuple
  cases h : isFL xs <;> simp [h]
@[simp] theorem o_isi {T : String} {d : D} {t : String} (h : tyN d = some t) : SO (gIsi T d) P = P (.a (.bl (isiT t T))) := by
  unfold gIsi
  rw [h]; rfl
@[simp] theorem o_lrng : SO (gLRng (.a (.int i))) P = ((-4611686018427387904 ≤ i ∧ i ≤ 16777216) ∧ P (.lst true (intL 0 i.toNat))) := by
  unfold gLRng
  by_cases h : -4611686018427387904 ≤ i ∧ i ≤ 16777216 <;> simp [h]
end
@[simp] theorem isFL_nil : isFL [] = true := rfl
@[simp] theorem isFL_cons {x : D} {xs : List D} : isFL (x :: xs) = (isF x && isFL xs) := rfl
@[simp] theorem isF_a {x : At} : isF (.a x) = true := rfl
@[simp] theorem isF_n {k : Kd} {o : Bool} {xs : List D} : isF (.n k o xs) = (!o && isFL xs) := rfl
theorem isFL_all : ∀ {xs : List D}, isFL xs = true ↔ ∀ x ∈ xs, isF x = true
  | [] => by simp
  | x :: xs => by simp [isFL_all (xs := xs)]
@[simp] theorem isFL_map {α : Type} {f : α → D} {l : List α} (h : ∀ x, isF (f x) = true) : isFL (l.map f) = true := isFL_all.mpr fun x hx => by
  obtain ⟨y, _, e⟩ := List.mem_map.mp hx
  rw [← e]; exact h y
@[simp] theorem frzL_nil : frzL [] = [] := rfl
@[simp] theorem frzL_cons {x : D} {xs : List D} : frzL (x :: xs) = frz x :: frzL xs := rfl
@[simp] theorem frzL_map {α : Type} {f : α → D} {l : List α} (h : ∀ x, isF (f x) = true) : frzL (l.map f) = l.map f := frzL_isFL _ (isFL_map h)
@[simp] theorem frzL_ints {l : List Int} : frzL (l.map D.int) = l.map D.int := frzL_map fun _ => rfl
@[simp] theorem isFL_ints {l : List Int} : isFL (l.map D.int) = true := isFL_map fun _ => rfl
@[simp] theorem capv : cap = 1000000 := rfl
@[simp] theorem frz_a {x : At} : frz (.a x) = .a x := rfl
@[simp] theorem frz_n {k : Kd} {o : Bool} {xs : List D} : frz (.n k o xs) = .n k false (frzL xs) := rfl
@[simp] theorem agL_nil : agL [] = some [] := rfl
@[simp] theorem agL_cons {x : D} {xs : List Ag} : agL (.d x :: xs) = (agL xs).map (x :: ·) := rfl
@[simp] theorem agL1_s {i : Nat} {xs : List Ag} : agL1 (.s i :: xs) = (agL xs).map fun p => ([], i, p) := rfl
@[simp] theorem agL1_d {x : D} {xs : List Ag} : agL1 (.d x :: xs) = (agL1 xs).map fun p => (x :: p.1, p.2) := rfl
@[simp] theorem q_C {x : At} {ρ : DL.Env} : qC x ρ = some x := rfl
section
variable {Q : Ps} {ρ : DL.Env} {C f : Str} {ok : At → Bool} {e : Exn}
@[simp] theorem p_exr : WP Q (.ex e ρ) = Q.ex e ρ := rfl
@[simp] theorem p_Raise : WP Q (dRaise C ρ) = Q.ex ⟨C, []⟩ ρ := rfl
@[simp] theorem p_stRaise {x : At} : WP Q (stRaise C f ok (.a x) ρ) = (ok x = true ∧ Q.ex ⟨C, [(f, x)]⟩ ρ) := by
  unfold stRaise
  cases h : ok x <;> simp [h, WP]
@[simp] theorem p_Try {b : DL.Env → Fl} {hs : List Hd} : WP Q (dTry b hs ρ) = WP ⟨Q.nx, Q.rt, Q.bk, Q.ct, fun e ρ1 => WP Q (dCatch hs e ρ1)⟩ (b ρ) := by
  unfold dTry
  cases b ρ <;> rfl
@[simp] theorem p_catch0 : WP Q (dCatch [] e ρ) = Q.ex e ρ := rfl
@[simp] theorem p_hRet {i : Nat} {g : Exn → Option At} : WP Q (hRet i g e ρ) = SO (g e) fun x => i < ρ.length ∧ Q.rt (.a x) (ρ.set i none) := by
  unfold hRet
  cases g e with
  | none => rfl
  | some x =>
    dsimp only [so_some]
    split
    · rename_i h; simp [h]
    · rename_i h; simp [h, WP]
end
@[simp] theorem sF_one {C f : Str} {x : At} : sF C f ⟨C, [(f, x)]⟩ = some x := by simp [sF, List.lookup]
@[simp] theorem o_eqS {a b : Str} {P : D → Prop} : SO (gEq (.a (.str a)) (.a (.str b))) P = P (.a (.bl (decide (a = b)))) := by
  show P (.a (.bl (decide (At.str a = At.str b)))) = _
  congr 3
  simp
@[simp] theorem o_neS {a b : Str} {P : D → Prop} : SO (gNe (.a (.str a)) (.a (.str b))) P = P (.a (.bl (!decide (a = b)))) := by
  show P (.a (.bl (!decide (At.str a = At.str b)))) = _
  congr 4
  simp
@[simp] theorem o_isiA_ins {C C' : Str} {fs : List Str} {o : Bool} {xs : List D} {P : D → Prop} : SO (gIsiA C (.n (.ins C' fs) o xs)) P = (C' = C ∧ P (.a (.bl true))) := by
  unfold gIsiA
  by_cases h : C' = C <;> simp [h]
section
variable {E : Exn → DL.Env → Prop} {P : D → DL.Env → Prop} {PL : List D → DL.Env → Prop} {fa fb : DL.Env → Out D} {ρ : DL.Env} {Q : Ps} {i : Nat}
def asLst (d : D) (P : Bool → List D → Prop) : Prop := match d with
  | .n .lst o xs => P o xs
  | _ => False
@[simp] theorem asLst_lst {o : Bool} {xs : List D} {P : Bool → List D → Prop} : asLst (.n .lst o xs) P = P o xs := rfl
@[simp] theorem w_IndexL : WO E P (dIndexL fa fb ρ) = WO E (fun d1 ρ1 => asLst d1 fun o xs => WO E (fun d2 ρ2 => SO (gIndexL (.n .lst o xs) d2) fun d => P d ρ2) (fb ρ1)) (fa ρ) := by
  unfold dIndexL
  cases fa ρ with
  | st => rfl
  | ex e ρ1 => rfl
  | ok d1 ρ1 =>
    cases d1 with
    | a x => rfl
    | n k o xs =>
      cases k with
      | lst =>
        dsimp only [wo_ok, asLst_lst]
        cases fb ρ1 with
        | st => rfl
        | ex e ρ2 => rfl
        | ok d2 ρ2 =>
          dsimp only [wo_ok]
          cases gIndexL (.n .lst o xs) d2 <;> rfl
      | _ => rfl
@[simp] theorem w_RngD : WO E PL (dRngD fa fb ρ) = WO E (fun d ρ1 => asI d fun i => WO E (fun d2 ρ2 => asI d2 fun j => ((-1000000 ≤ i ∧ i ≤ 1000000) ∧ -1000000 ≤ j ∧ j ≤ 1000000) ∧ PL (intsC i (-1) (i - j).toNat) ρ2) (fb ρ1)) (fa ρ) := by
  unfold dRngD
  cases fa ρ with
  | st => rfl
  | ex e ρ1 => rfl
  | ok d ρ1 =>
    cases d with
    | n _ _ _ => rfl
    | a x =>
      cases x with
      | int i =>
        dsimp only [wo_ok, asI_int]
        cases fb ρ1 with
        | st => rfl
        | ex e ρ2 => rfl
        | ok d2 ρ2 =>
          cases d2 with
          | n _ _ _ => rfl
          | a y =>
            cases y with
            | int j =>
              dsimp only [wo_ok, asI_int]
              split
              · rename_i h; simp [h]
              · rename_i h; simp only [h, false_and]; rfl
            | non => rfl
            | bl b => rfl
            | str s => rfl
      | non => rfl
      | bl b => rfl
      | str s => rfl
@[simp] theorem p_Aug {h : Int → Int → Int} : WP Q (dAug i h fa ρ) = SO (ρ[i]?) (fun o => SO o fun x => asI x fun a => WO Q.ex (fun d ρ1 => asI d fun b => i < ρ1.length ∧ Q.nx (ρ1.set i (some (.a (.int (h a b)))))) (fa ρ)) := by
  unfold dAug
  cases e : ρ[i]? with
  | none => rfl
  | some o =>
    cases o with
    | none => rfl
    | some d =>
      cases d with
      | n _ _ _ => rfl
      | a x =>
        cases x with
        | int a =>
          dsimp only [so_some, asI_int]
          cases fa ρ with
          | st => rfl
          | ex e ρ1 => rfl
          | ok d ρ1 =>
            cases d with
            | n _ _ _ => rfl
            | a y =>
              cases y with
              | int b =>
                dsimp only [wo_ok, asI_int]
                exact p_Set
              | non => rfl
              | bl b => rfl
              | str s => rfl
        | non => rfl
        | bl b => rfl
        | str s => rfl
end
@[simp] theorem o_lenO_lst {C : Str} {F : List D → FR} {o : Bool} {xs : List D} {P : D → Prop} : SO (gLenO C F (.n .lst o xs)) P = P (.a (.int xs.length)) := rfl
@[simp] theorem o_lenO_tup {C : Str} {F : List D → FR} {o : Bool} {xs : List D} {P : D → Prop} : SO (gLenO C F (.n .tup o xs)) P = P (.a (.int xs.length)) := rfl
@[simp] theorem s_tgP2 {g1 g2 : D → DL.Env → Option DL.Env} {o : Bool} {a b : D} {ρ : DL.Env} {P : DL.Env → Prop} : SO (tgP g1 g2 (.n .tup o [a, b]) ρ) P = SO (g1 a ρ) fun ρ1 => SO (g2 b ρ1) P := by
  rw [s_tgP]
  cases g1 a ρ <;> rfl
section
variable {E : Exn → DL.Env → Prop} {P : D → DL.Env → Prop} {fa fb : DL.Env → Out D} {ρ : DL.Env} {C : Str} {F : List D → FR}
@[simp] theorem w_BinO : WO E P (dBinO C F fa fb ρ) = WO E (fun d ρ1 => asIns d fun C1 fs xs => (C1 = C ∧ isFL xs = true) ∧ WO E (fun d2 ρ2 => asIns d2 fun C2 gs ys => (C2 = C ∧ isFL ys = true) ∧ WF (fun e _ => E e ρ2) (fun d _ => P d ρ2) (F [.n (.ins C1 fs) false xs, .n (.ins C2 gs) false ys])) (fb ρ1)) (fa ρ) := by
  unfold dBinO
  cases fa ρ with
  | st => rfl
  | ex e ρ1 => rfl
  | ok d ρ1 =>
    cases d with
    | a x => rfl
    | n k o xs =>
      cases k with
      | ins C1 fs =>
        cases o with
        | true => rfl
        | false =>
          dsimp only [wo_ok, asIns_ins]
          split
          · rename_i h
            simp only [h, and_self, true_and]
            cases fb ρ1 with
            | st => rfl
            | ex e ρ2 => rfl
            | ok d2 ρ2 =>
              cases d2 with
              | a x => rfl
              | n k o ys =>
                cases k with
                | ins C2 gs =>
                  cases o with
                  | true => rfl
                  | false =>
                    dsimp only [wo_ok, asIns_ins]
                    split
                    · rename_i h2
                      simp only [h2, and_self, true_and]
                      cases F _ <;> rfl
                    · rename_i h2; simp only [h2, false_and]; rfl
                | tup => rfl
                | lst => rfl
                | scr => rfl
                | dct ks => rfl
          · rename_i h; simp only [h, false_and]; rfl
      | tup => rfl
      | lst => rfl
      | scr => rfl
      | dct ks => rfl
@[simp] theorem w_NegO : WO E P (dNegO C F fa ρ) = WO E (fun d ρ1 => asIns d fun C1 fs xs => (C1 = C ∧ isFL xs = true) ∧ WF (fun e _ => E e ρ1) (fun d _ => P d ρ1) (F [.n (.ins C1 fs) false xs])) (fa ρ) := by
  unfold dNegO
  cases fa ρ with
  | st => rfl
  | ex e ρ1 => rfl
  | ok d ρ1 =>
    cases d with
    | a x => rfl
    | n k o xs =>
      cases k with
      | ins C1 fs =>
        cases o with
        | true => rfl
        | false =>
          dsimp only [wo_ok, asIns_ins]
          split
          · rename_i h
            simp only [h, and_self, true_and]
            cases F _ <;> rfl
          · rename_i h; simp only [h, false_and]; rfl
      | tup => rfl
      | lst => rfl
      | scr => rfl
      | dct ks => rfl
end
section
variable {E : Exn → DL.Env → Prop} {P : D → DL.Env → Prop} {fa fb fc : DL.Env → Out D} {ρ : DL.Env} {Q : Ps} {i k : Nat} {is : List Nat}
@[simp] theorem w_Tmp : WO E P (dTmp is fa ρ) = WO (fun e _ => E e ρ) (fun d _ => noL d = true ∧ P d ρ) (fa (tmpE is 0 ρ)) := by
  unfold dTmp
  cases fa (tmpE is 0 ρ) with
  | st => rfl
  | ex e ρ1 => rfl
  | ok d ρ1 =>
    dsimp only [wo_ok]
    split
    · rename_i h; simp [h]
    · rename_i h; simp [h, WO]
@[simp] theorem tmpE_nil : tmpE is k [] = [] := rfl
@[simp] theorem tmpE_none : tmpE is k (none :: ρ) = none :: tmpE is (k + 1) ρ := rfl
@[simp] theorem tmpE_some {d : D} : tmpE is k (some d :: ρ) = (if k ∈ is ∧ okO d = true then some (frz d) else if isF d = true then some d else none) :: tmpE is (k + 1) ρ := rfl
@[simp] theorem okO_a {x : At} : okO (.a x) = true := rfl
@[simp] theorem okO_lst' {o : Bool} {xs : List D} : okO (.n .lst o xs) = okOL xs := by
  show ((!o || isLs .lst) && okOL xs) = _
  simp [isLs]
@[simp] theorem noL_a {x : At} : noL (.a x) = true := rfl
@[simp] theorem noL_tup {o : Bool} {xs : List D} : noL (.n .tup o xs) = noLL xs := by
  show (isTI .tup && noLL xs) = _
  simp [isTI]
@[simp] theorem noL_ins {C : Str} {fs : List Str} {o : Bool} {xs : List D} : noL (.n (.ins C fs) o xs) = noLL xs := by
  show (isTI (.ins C fs) && noLL xs) = _
  simp [isTI]
@[simp] theorem noLL_nil : noLL [] = true := rfl
@[simp] theorem noLL_cons {x : D} {xs : List D} : noLL (x :: xs) = (noL x && noLL xs) := rfl
@[simp] theorem w_Mv : WO E P (dMv i ρ) = SO (ρ[i]?) (fun o => SO o fun d => P d (ρ.set i none)) := by
  unfold dMv
  split
  · rename_i d h; rw [h]; rfl
  · rename_i h
    cases e : ρ[i]? with
    | none => rfl
    | some o =>
      cases o with
      | none => rfl
      | some d => exact absurd e (h d)
@[simp] theorem w_Pop0 : WO E P (dPop0 i ρ) = SO (ρ[i]?) (fun o => SO o fun x => asL x fun xs => SO (xs[xs.length - 1]?) fun d => P d (ρ.set i (some (.lst true (xs.eraseIdx (xs.length - 1)))))) := by
  unfold dPop0
  split
  · rename_i xs h
    rw [h]
    dsimp only [so_some, asL_lst]
    cases xs[xs.length - 1]? <;> rfl
  · rename_i h
    cases e : ρ[i]? with
    | none => rfl
    | some o =>
      cases o with
      | none => rfl
      | some d =>
        dsimp only [so_some]
        rw [asL_cases fun xs z => h xs (by rw [e, z])]
        rfl
def asDct (d : D) (P : List Key → Bool → List D → Prop) : Prop := match d with
  | .n (.dct ks) o xs => P ks o xs
  | _ => False
@[simp] theorem asDct_dct {ks : List Key} {o : Bool} {xs : List D} {P : List Key → Bool → List D → Prop} : asDct (.n (.dct ks) o xs) P = P ks o xs := rfl
theorem asDct_cases {d : D} {P : List Key → Bool → List D → Prop} (h : ∀ ks o xs, d ≠ .n (.dct ks) o xs) : asDct d P = False := by
  cases d with
  | a x => rfl
  | n k o xs =>
    cases k with
    | dct ks => exact absurd rfl (h ks o xs)
    | _ => rfl
def asKey (d : D) (P : Key → Prop) : Prop := match d with
  | .a x => SO (keyOf x) P
  | _ => False
@[simp] theorem asKey_int {j : Int} {P : Key → Prop} : asKey (.a (.int j)) P = P (.inl j) := rfl
@[simp] theorem asKey_str {s : Str} {P : Key → Prop} : asKey (.a (.str s)) P = P (.inr s) := rfl
@[simp] theorem w_DGet : WO E P (dDGet i fb ρ) = SO (ρ[i]?) (fun o => SO o fun x => asDct x fun _ _ _ => WO E (fun d ρ1 => asKey d fun k => SO (ρ1[i]?) fun o => SO o fun y => asDct y fun ks _ xs => SO (dctAt ks xs k) fun d => isF d = true ∧ P d ρ1) (fb ρ)) := by
  unfold dDGet
  split
  · rename_i k0 o0 xs0 h
    rw [h]
    dsimp only [so_some, asDct_dct]
    cases fb ρ with
    | st => rfl
    | ex e ρ1 => rfl
    | ok d ρ1 =>
      cases d with
      | n _ _ _ => rfl
      | a x =>
        dsimp only [wo_ok, asKey]
        cases keyOf x with
        | none => rfl
        | some k =>
          dsimp only [so_some]
          split
          · rename_i ks o1 xs hx
            rw [hx]
            dsimp only [so_some, asDct_dct]
            cases dctAt ks xs k with
            | none => rfl
            | some d =>
              dsimp only [so_some]
              split
              · rename_i hf; simp [hf]
              · rename_i hf; simp [hf, WO]
          · rename_i hx
            cases e : ρ1[i]? with
            | none => rfl
            | some o =>
              cases o with
              | none => rfl
              | some y =>
                dsimp only [so_some]
                rw [asDct_cases fun ks o xs z => hx ks o xs (by rw [e, z])]
                rfl
  · rename_i h
    cases e : ρ[i]? with
    | none => rfl
    | some o =>
      cases o with
      | none => rfl
      | some y =>
        dsimp only [so_some]
        rw [asDct_cases fun ks o xs z => h ks o xs (by rw [e, z])]
        rfl
@[simp] theorem w_DIn {neg : Bool} : WO E P (dDIn neg i fb ρ) = WO E (fun d ρ1 => asKey d fun k => SO (ρ1[i]?) fun o => SO o fun y => asDct y fun ks _ xs => ks.length = xs.length ∧ P (.a (.bl (if neg then !hasK k ks else hasK k ks))) ρ1) (fb ρ) := by
  unfold dDIn
  cases fb ρ with
  | st => rfl
  | ex e ρ1 => rfl
  | ok d ρ1 =>
    cases d with
    | n _ _ _ => rfl
    | a x =>
      dsimp only [wo_ok, asKey]
      cases keyOf x with
      | none => rfl
      | some k =>
        dsimp only [so_some]
        split
        · rename_i ks o1 xs hx
          rw [hx]
          dsimp only [so_some, asDct_dct]
          split
          · rename_i hf; simp [hf]
          · rename_i hf; simp [hf, WO]
        · rename_i hx
          cases e : ρ1[i]? with
          | none => rfl
          | some o =>
            cases o with
            | none => rfl
            | some y =>
              dsimp only [so_some]
              rw [asDct_cases fun ks o xs z => hx ks o xs (by rw [e, z])]
              rfl
@[simp] theorem w_DGet2 : WO E P (dDGet2 i fb fc ρ) = SO (ρ[i]?) (fun o => SO o fun x => asDct x fun _ _ _ => WO E (fun d ρ1 => (∃ x, d = .a x) ∧ WO E (fun c ρ2 => asKey d fun k => SO (ρ2[i]?) fun o => SO o fun y => asDct y fun ks _ xs => isF c = true ∧ (match dctAt ks xs k with | some d => isF d = true ∧ P d ρ2 | none => P c ρ2)) (fc ρ1)) (fb ρ)) := by
  unfold dDGet2
  split
  · rename_i k0 o0 xs0 h
    rw [h]
    dsimp only [so_some, asDct_dct]
    cases fb ρ with
    | st => rfl
    | ex e ρ1 => rfl
    | ok d ρ1 =>
      cases d with
      | n _ _ _ => simp [WO]
      | a x =>
        simp only [wo_ok, D.a.injEq, exists_eq', true_and]
        cases fc ρ1 with
        | st => rfl
        | ex e ρ2 => rfl
        | ok c ρ2 =>
          dsimp only [wo_ok, asKey]
          cases keyOf x with
          | none => rfl
          | some k =>
            dsimp only [so_some]
            split
            · rename_i ks o1 xs hx
              rw [hx]
              dsimp only [so_some, asDct_dct]
              cases dctAt ks xs k with
              | none =>
                dsimp only
                split
                · rename_i hf; simp [hf]
                · rename_i hf; simp [hf, WO]
              | some d =>
                dsimp only
                split
                · rename_i hf; simp [hf.1, hf.2]
                · rename_i hf
                  simp only [WO]
                  symm
                  rw [eq_iff_iff, iff_false]
                  exact fun q => hf ⟨q.2.1, q.1⟩
            · rename_i hx
              cases e : ρ2[i]? with
              | none => rfl
              | some o =>
                cases o with
                | none => rfl
                | some y =>
                  dsimp only [so_some]
                  rw [asDct_cases fun ks o xs z => hx ks o xs (by rw [e, z])]
                  rfl
  · rename_i h
    cases e : ρ[i]? with
    | none => rfl
    | some o =>
      cases o with
      | none => rfl
      | some y =>
        dsimp only [so_some]
        rw [asDct_cases fun ks o xs z => h ks o xs (by rw [e, z])]
        rfl
@[simp] theorem p_DPut {d : D} : WP Q (stDPut i fb d ρ) = SO (ρ[i]?) (fun o => SO o fun x => asDct x fun _ o0 _ => o0 = true ∧ WO Q.ex (fun k ρ2 => asKey k fun k => SO (ρ2[i]?) fun o => SO o fun y => asDct y fun ks o xs => o = true ∧ (((isF d = true ∧ isFL xs = true) ∧ xs.length < cap) ∧ Q.nx (ρ2.set i (some (.n (.dct (putKs ks k)) true (putXs ks xs k d)))))) (fb ρ)) := by
  unfold stDPut
  split
  · rename_i k0 xs0 h
    rw [h]
    simp only [so_some, asDct_dct, true_and]
    cases fb ρ with
    | st => rfl
    | ex e ρ1 => rfl
    | ok dk ρ1 =>
      cases dk with
      | n _ _ _ => rfl
      | a x =>
        dsimp only [wo_ok, asKey]
        cases keyOf x with
        | none => rfl
        | some k =>
          dsimp only [so_some]
          split
          · rename_i ks xs hx
            rw [hx]
            simp only [so_some, asDct_dct, true_and]
            split
            · rename_i hf; simp [hf]
            · rename_i hf
              simp only [WP]
              symm
              rw [eq_iff_iff, iff_false]
              exact fun q => hf q.1
          · rename_i hx
            cases e : ρ1[i]? with
            | none => rfl
            | some o =>
              cases o with
              | none => rfl
              | some y =>
                dsimp only [so_some]
                by_cases hy : ∃ ks xs, y = .n (.dct ks) true xs
                · obtain ⟨ks, xs, rfl⟩ := hy
                  exact absurd e (hx ks xs)
                · cases y with
                  | a x => rfl
                  | n kk oo xs =>
                    cases kk with
                    | dct ks =>
                      cases oo with
                      | true => exact absurd ⟨ks, xs, rfl⟩ hy
                      | false => simp [WP]
                    | _ => rfl
  · rename_i h
    cases e : ρ[i]? with
    | none => rfl
    | some o =>
      cases o with
      | none => rfl
      | some y =>
        dsimp only [so_some]
        cases y with
        | a x => rfl
        | n kk oo xs =>
          cases kk with
          | dct ks =>
            cases oo with
            | true => exact absurd e (h ks xs)
            | false => simp [WP]
          | _ => rfl
@[simp] theorem o_lenD {ks : List Key} {o : Bool} {xs : List D} {P : D → Prop} : SO (gLenD (.n (.dct ks) o xs)) P = P (.a (.int xs.length)) := rfl
@[simp] theorem w_Disp1 : WO E P (dDisp1 fb fc ρ) = WO E (fun d ρ1 => (∃ x, d = .a x) ∧ WO E (fun c ρ2 => asKey d fun k => isF c = true ∧ P (.n (.dct [k]) true [c]) ρ2) (fc ρ1)) (fb ρ) := by
  unfold dDisp1
  cases fb ρ with
  | st => rfl
  | ex e ρ1 => rfl
  | ok d ρ1 =>
    cases d with
    | n _ _ _ => simp [WO]
    | a x =>
      simp only [wo_ok, D.a.injEq, exists_eq', true_and]
      cases fc ρ1 with
      | st => rfl
      | ex e ρ2 => rfl
      | ok c ρ2 =>
        dsimp only [wo_ok, asKey]
        cases keyOf x with
        | none => rfl
        | some k =>
          dsimp only [so_some]
          split
          · rename_i hf; simp [hf]
          · rename_i hf; simp [hf, WO]
@[simp] theorem p_FzB {f : DL.Env → Fl} {d : D} (h : ρ[i]? = some (some d)) : WP Q (dFzB i f ρ) = WP Q (f (ρ.set i (some (frz d)))) := by
  unfold dFzB
  rw [h]
end
@[simp] theorem w_DGetE {E : Exn → DL.Env → Prop} {P : D → DL.Env → Prop} {fa fb : DL.Env → Out D} {ρ : DL.Env} : WO E P (dDGetE fa fb ρ) = WO E (fun d1 ρ1 => asDct d1 fun ks _ xs => WO E (fun d ρ2 => asKey d fun k => SO (dctAt ks xs k) fun d => isF d = true ∧ P d ρ2) (fb ρ1)) (fa ρ) := by
  unfold dDGetE
  cases fa ρ with
  | st => rfl
  | ex e ρ1 => rfl
  | ok d1 ρ1 =>
    cases d1 with
    | a x => rfl
    | n kk o xs =>
      cases kk <;> first
        | rfl
        | (dsimp only [wo_ok, asDct]
           cases fb ρ1 with
           | st => rfl
           | ex e ρ2 => rfl
           | ok d ρ2 =>
             cases d with
             | n _ _ _ => rfl
             | a x =>
               dsimp only [wo_ok, asKey]
               cases keyOf x with
               | none => rfl
               | some k =>
                 dsimp only [so_some]
                 cases dctAt _ xs k with
                 | none => rfl
                 | some d =>
                   dsimp only [so_some]
                   split
                   · rename_i h; simp [h]
                   · rename_i h; simp [h]; exact fun h => h)
@[simp] theorem o_trng {i : Int} {P : D → Prop} : SO (gTRng (.a (.int i))) P = ((-4611686018427387904 ≤ i ∧ i ≤ 16777216) ∧ P (.tup (intL 0 i.toNat))) := by
  unfold gTRng
  by_cases h : -4611686018427387904 ≤ i ∧ i ≤ 16777216 <;> simp [h]
@[simp] theorem o_divm {i j : Int} {P : D → Prop} : SO (gDivm (.a (.int i)) (.a (.int j))) P = ((0 < j ∧ j < 1073741824) ∧ P (.tup [.int (i / j), .int (i % j)])) := by
  unfold gDivm
  by_cases h : 0 < j ∧ j < 1073741824 <;> simp [h]
end DL
namespace DC
open PySem L2 DL
def B_has : DL.Env → Fl :=
  (dBind (dOp2 gEq (dOp2 gAnd (dOp2 gShr (dVar 0) (dVar 1)) (dC (.int 1))) (dC (.int 1))) fun d ρ => .rt d ρ)
def F_has : List D → FR := fnD 2 none B_has
def B_is_integer : DL.Env → Fl :=
  (dBind (dAndV (dU (gIsi "int") (dVar 0)) (dNotV (dU (gIsi "bool") (dVar 0)))) fun d ρ => .rt d ρ)
def F_is_integer : List D → FR := fnD 1 none B_is_integer
def B_members : DL.Env → Fl :=
  (dBind (dU gTuple (dLc [1] (dRng1 (dU gBits (dVar 0))) (tg1 1) (dB (dOp2 gEq (dOp2 gAnd (dOp2 gShr (dVar 0) (dVar 1)) (dC (.int 1))) (dC (.int 1)))) (dVar 1))) fun d ρ => .rt d ρ)
def F_members : List D → FR := fnD 2 none B_members
def B_set_of : DL.Env → Fl :=
  (dSeq (dBind (dC (.int 0)) (stSet 1))
  (dSeq (dFor (dIter (dVar 0)) (tg1 2) (dBind (dOp2 gOrB (dVar 1) (dOp2 gShl (dC (.int 1)) (dVar 2))) (stSet 1)))
  (dBind (dVar 1) fun d ρ => .rt d ρ)))
def F_set_of : List D → FR := fnD 3 none B_set_of
def B_Order_below : DL.Env → Fl :=
  (dBind (dU gTuple (dLc [1] (dRng1 (dU (gFld "n") (dVar 0))) (tg1 1) dYes (dCall 1 F_set_of (dACons (dLc [2] (dRng1 (dU (gFld "n") (dVar 0))) (tg1 2) (dB (dCall 2 F_has (dACons (dOp2 gIx (dU (gFld "above") (dVar 0)) (dVar 2)) (dACons (dVar 1) dANil)))) (dVar 2)) dANil)))) fun d ρ => .rt d ρ)
def F_Order_below : List D → FR := fnD 3 none B_Order_below
def B_law_numbers : DL.Env → Fl :=
  (dSeq (dBind (dLst dANil) (stSet 1))
  (dSeq (dFor (dRng1 (dOp2 gMin2 (dU gLen (dVar 0)) (dC (.int 63)))) (tg1 2) (dSeq (dBind (dU gAbs (dOp2 gIx (dVar 0) (dVar 2))) (stSet 3))
  (dIf (dB (dOp2 gGe (dVar 3) (dOp2 gPow (dC (.int 10)) (dC (.int 18))))) (dFor (dRng1 (dC (.int 60))) (tg1 4) (dIf (dB (dOp2 gGt (dVar 3) (dC (.int 0)))) (dSeq (dHas 1 (dBind (dOp2 gMod (dVar 3) (dC (.int 1009))) (stApp 1)))
  (dBind (dOp2 gFdiv (dVar 3) (dC (.int 1009))) (stSet 3))) dNext)) (dFor (dRng1 (dC (.int 5))) (tg1 5) (dSeq (dBind (dOp2 gMod (dOp2 gAdd (dOp2 gAdd (dOp2 gMul (dVar 3) (dC (.int 48271))) (dOp2 gMul (dC (.int 69621)) (dOp2 gAdd (dVar 5) (dVar 2)))) (dC (.int 11))) (dC (.int 2147483647))) (stSet 3))
  (dSeq (dBind (dOp2 gMod (dOp2 gAdd (dOp2 gMul (dVar 3) (dC (.int 16807))) (dOp2 gFdiv (dVar 3) (dC (.int 65536)))) (dC (.int 2147483629))) (stSet 6))
  (dHas 1 (dBind (dOp2 gMod (dVar 6) (dC (.int 1009))) (stApp 1)))))))))
  (dRetMv 1)))
def F_law_numbers : List D → FR := fnD 7 none B_law_numbers
def B_law_next : DL.Env → Fl :=
  (dSeq (dIf (dB (dOp2 gEq (dU gLen (dPeek 0)) (dC (.int 0)))) (dBind (dC (.int 0)) fun d ρ => .rt d ρ) dNext)
  (dBind (dOp2 gMod (dPopAt 0 (dC (.int 0))) (dVar 1)) fun d ρ => .rt d ρ))
def F_law_next : List D → FR := fnD 2 (some 0) B_law_next
def B_Order_size : DL.Env → Fl :=
  (dBind (dU (gFld "n") (dVar 0)) fun d ρ => .rt d ρ)
def F_Order_size : List D → FR := fnD 1 none B_Order_size
def B_is_set : DL.Env → Fl :=
  (dBind (dAndV (dCall 1 F_is_integer (dACons (dVar 0) dANil)) (dChain gLe gLt (dC (.int 0)) (dVar 0) (dOp2 gShl (dC (.int 1)) (dVar 1)))) fun d ρ => .rt d ρ)
def F_is_set : List D → FR := fnD 2 none B_is_set
def B_ranks : DL.Env → Fl :=
  (dSeq (dBind (dMeth "Order" "below" 0 F_Order_below (dVar 0) dANil) (stSet 1))
  (dSeq (dBind (fun ρ => .ok (.n (.dct []) true []) ρ) (stSet 2))
  (dSeq (dFrz 2 (whL (dB (dOp2 gLt (dU gLenD (dPeek 2)) (dMeth "Order" "size" 0 F_Order_size (dVar 0) dANil))) (dFor (dRng1 (dMeth "Order" "size" 0 F_Order_size (dVar 0) dANil)) (tg1 3) (dSeq (dBind (dCall 1 F_members (dACons (dOp2 gIx (dVar 1) (dVar 3)) dANil)) (stSet 4))
  (dIf (dAndT (dB (dDIn true 2 (dVar 3))) (dB (dU gAll (dLc [5] (dIter (dVar 4)) (tg1 5) dYes (dDIn false 2 (dVar 5)))))) (dBind (dOp2 gAdd (dU gMax1 (dOp2 gAdd (dLst (dACons (dU gNeg (dC (.int 1))) dANil)) (dLc [5] (dIter (dVar 4)) (tg1 5) dYes (dDGet 2 (dVar 5))))) (dC (.int 1))) (stDPut 2 (dVar 3))) dNext))) 100000))
  (dBind (dU gTuple (dLc [3] (dRng1 (dMeth "Order" "size" 0 F_Order_size (dVar 0) dANil)) (tg1 3) dYes (dDGet 2 (dVar 3)))) fun d ρ => .rt d ρ))))
def F_ranks : List D → FR := fnD 6 none B_ranks
def B_length : DL.Env → Fl :=
  (dBind (dOp2 gAdd (dU gMax1 (dOp2 gAdd (dLst (dACons (dU gNeg (dC (.int 1))) dANil)) (dU gList (dCall 1 F_ranks (dACons (dVar 0) dANil))))) (dC (.int 1))) fun d ρ => .rt d ρ)
def F_length : List D → FR := fnD 1 none B_length
end DC
namespace DL
open PySem PySem.Spec PySem.W PyProof.Rows L2
section
variable {K : PySem.W.Frag} {cA : Str → Addr}
end
section
variable {X : Cx} {cA : Str → Addr} {W : WX} {fa fb : Env → Out D} {a b : Expr} {p pos : Pos}
end
end DL
namespace DL
open PySem PySem.Spec PySem.W PyProof.Rows L2 NdefX
section
variable {X : Cx} {cA : Str → Addr} {i : Nat} {a : Addr} {cls : Value} {d : Option Addr} {g h : Exn → Option At} {e e2 : Expr} {pos : Pos}
end
end DL
namespace DC
open PySem L2 DL
end DC
namespace DL
open PySem L2
end DL
namespace DL
open PySem L2
end DL
namespace L2
open PySem PySem.Spec PyProof.Rows
end L2
namespace DL
open PySem L2
end DL
namespace DL
open PySem L2
section
variable {prog : Program} {w : World} {κ : Type} [DecidableEq κ] {kd : KeyKind prog w κ} {A : Around} {E : Value → Shared → Prop} {s : Shared}
theorem put_pairs {d : Addr} {m : List (κ × Value)} {k : κ} {u v : Value} {Q : Unit → Shared → Prop} (hu : kd.is k u = true) (hm : s.heap.DictOf kd d m) (hz : m.length ≤ sizeLine)
    (q : ∀ g, g.DictOf kd d (stored m k v) → Heap.SameBut d s.heap g → Q () { s with heap := g }) : wpAny (model prog w) A (dictPut d (kd.hash k) u v) Q E s := by
  obtain ⟨ob, ent, epo, g1, c1, d1, k1, p1, n1⟩ := hm
  have sz : ent.size ≤ sizeLine := by
    have a1 := p1.length
    have a2 : ent.toList.length = ent.size := by simp
    omega
  have ix : (ent.findIdx? fun e => kd.is k e.key) = m.findIdx? fun kv => decide (kv.1 = k) := by
    rw [← p1.findIdx k]
    cases ent
    simp
  unfold dictPut
  refine wpAny_bind (wpAny_dictFind_of hu g1 d1 k1 ?_)
  cases hi : ent.findIdx? fun e => kd.is k e.key with
  | some i =>
    have an := any_of_findIdx_some (ix ▸ hi)
    refine wpAny_updateDict g1 d1 (q _ ⟨_, _, epo, Heap.get?_update_self _ g1 (Obj.isFreed_of_dict (Obj.data_mapDict d1 _)), c1.mapDict _, Obj.data_mapDict d1 _, k1.modify _ _, ?_, ?_⟩ (Heap.SameBut.update ..))
    · rw [stored, if_pos an]
      have li : (ent.toList.findIdx? fun e => kd.is k e.key) = some i := by
        rw [← hi]
        cases ent
        simp
      have r := p1.modify n1 li v
      cases ent
      simpa using r
    · rw [stored, if_pos an, keys_map_store]
      exact n1
  | none =>
    have nk : k ∉ m.map (·.1) := not_mem_of_findIdx_none (ix ▸ hi)
    have an : ¬ (m.any fun kv => decide (kv.1 = k)) = true := fun h => by
      obtain ⟨kv, a1, a2⟩ := List.any_eq_true.mp h
      exact nk (List.mem_map.mpr ⟨kv, a1, of_decide_eq_true a2⟩)
    refine wpAny_updateDictKeys (hz := sz) g1 d1 (q _ ⟨_, _, epo + 1, Heap.get?_update_self _ g1 (Obj.isFreed_of_dict (Obj.data_mapDictKeys d1 _)), c1.mapDictKeys _, Obj.data_mapDictKeys d1 _, k1.push hu _, ?_, ?_⟩ (Heap.SameBut.update ..))
    · rw [stored, if_neg an]
      have r := p1.append hu (kd.hash k) v
      cases ent
      simpa using r
    · rw [stored, if_neg an, List.map_append, List.nodup_append]
      refine ⟨n1, by simp, fun a ha b hb e => ?_⟩
      simp only [List.map_cons, List.map_nil, List.mem_singleton] at hb
      exact nk (hb ▸ e ▸ ha)
theorem merge_pairs {d o : Addr} {m more : List (κ × Value)} {Q : Unit → Shared → Prop} (ne : d ≠ o) (no : (o == sysModules) = false) (hd : s.heap.DictOf kd d m) (ho : s.heap.DictOf kd o more)
    (hz : m.length + more.length ≤ sizeLine) (q : ∀ g, g.DictOf kd d (merged m more) → Heap.SameBut d s.heap g → Q () { s with heap := g }) : wpAny (model prog w) A (mergeMapping d (.ref o) false) Q E s := by
  obtain ⟨bd, ed, pd, gd, cd, dd, kdd, idd, nd⟩ := id hd
  obtain ⟨bo, eo, po, go, co, dO, ko, ido, nno⟩ := id ho
  have len : more.length = eo.size := by rw [← ido.length]; simp
  unfold mergeMapping
  refine wpAny_bind (wpAny_isInstance ho.typeIs isSubtype_dict_dict ?_)
  rw [if_pos rfl]
  refine wpAny_bind (wpAny_specialOf ho.typeIs PySem.F.slot_dict_iter.lookup ?_)
  refine wpAny_bind (wpAny_pure ?_)
  rw [show (some (Value.builtin "dict.__iter__") == some (Value.builtin "dict.__iter__")) = true from beq_self_eq_true _]
  dsimp only
  rw [if_neg (by rw [no]; exact Bool.false_ne_true)]
  refine wpAny_bind (wpAny_dictEntries gd dd ?_)
  split
  refine wpAny_bind (wpAny_dictEntries go dO ?_)
  refine wpAny_bind (wpAny_of_eq (a := PUnit.unit) ?_ ?_)
  · rw [← Array.forIn_toList]
    refine forIn_yield_id _ fun e he c => ?_
    obtain ⟨k, hk, _⟩ := ko e (Array.mem_toList_iff.mp he)
    have cv := kd.byValue k _ hk
    obtain ⟨h1, key, val⟩ := e
    cases key <;> first | rfl | exact absurd cv Bool.false_ne_true
  all_goals
    refine wpAny_bind (wpAny_dictEntries go dO ?_)
    refine wpAny_bind (wpAny_dictEpoch go dO ?_)
    refine wpAny_bind ?_
    rw [List.range_eq_range']
    refine wpAny_forIn_list _ (fun rest _ s' => ∃ g i, s' = { s with heap := g } ∧ rest = List.range' i (eo.size - i) ∧ i ≤ eo.size ∧ g.DictOf kd d (merged m (more.take i)) ∧ g.get? o = some bo ∧ Heap.SameBut d s.heap g) _ ?_ ?_ _ _
      ⟨s.heap, 0, rfl, by simp, Nat.zero_le _, by simpa [merged] using hd, go, Heap.SameBut.refl _ _⟩
    · rintro x rest b s' ⟨g, i, rfl, hr, hi, hd', go', hs'⟩
      have lt : i < eo.size := by
        rcases Nat.lt_or_ge i eo.size with h | h
        · exact h
        · rw [Nat.sub_eq_zero_of_le h] at hr
          cases hr
      obtain ⟨rfl, er⟩ : x = i ∧ rest = List.range' (i + 1) (eo.size - (i + 1)) := by
        have e : eo.size - i = (eo.size - (i + 1)) + 1 := by omega
        rw [e, List.range'_succ] at hr
        injection hr with a1 a2
        exact ⟨a1, a2⟩
      refine wpAny_bind (wpAny_dictEntries go' dO ?_)
      rw [Array.getElem?_eq_getElem lt]
      have lm : x < more.length := by rw [len]; exact lt
      obtain ⟨hk, hv⟩ := ido.get? (e := eo[x]) (k := (more[x]).1) (v := (more[x]).2) (by simp [lt]) (List.getElem?_eq_getElem lm)
      obtain ⟨k', hk', hh⟩ := ko eo[x] (Array.getElem_mem lt)
      obtain rfl : k' = (more[x]).1 := kd.inj _ _ _ hk' hk
      dsimp only
      rw [hh, hv]
      have mz : (merged m (more.take x)).length ≤ sizeLine := by
        have a1 := merged_length_le m (more.take x)
        have a2 : (more.take x).length ≤ more.length := by rw [List.length_take]; omega
        omega
      refine wpAny_bind (wpAny_holding ?_)
      rw [if_neg Bool.false_ne_true]
      refine put_pairs hk hd' mz fun g2 hd2 hs2 => ?_
      have go2 : g2.get? o = some bo := (hs2.2 o (Ne.symm ne)).trans go'
      refine wpAny_bind (wpAny_dictEpoch go2 dO ?_)
      rw [if_neg (by simp)]
      exact wpAny_pure ⟨g2, x + 1, rfl, er, lt, by rw [merged_take_succ m more x (more[x]) (List.getElem?_eq_getElem lm)]; exact hd2, go2, hs'.trans hs2⟩
    · rintro b s' ⟨g, i, rfl, hr, hi, hd', go', hs'⟩
      have ei : i = eo.size := by
        rcases Nat.lt_or_ge i eo.size with h | h
        · have e : eo.size - i = (eo.size - (i + 1)) + 1 := by omega
          rw [e, List.range'_succ] at hr
          cases hr
        · omega
      rw [ei, ← len, List.take_length] at hd'
      exact wpAny_pure (q g hd' hs')
theorem disp_star {mt kt vt : Sem Value} {Q : Value → Shared → Prop}
    (h : wpAny (model prog w) A mt (fun m s1 => wpAny (model prog w) A (mergeMapping s.heap.objs.size m false) (fun _ s2 => wpAny (model prog w) A (subDict [(kt, vt)])
      (fun sub s3 => wpAny (model prog w) A (mergeMapping s.heap.objs.size (.ref sub) false) (fun _ s4 => Q (.ref s.heap.objs.size) s4) (fun _ _ => False) s3) E s2) (fun _ _ => False) s1) E
      { s with heap := s.heap.push { cls := .type "dict", data := .dict #[] } }) : wpAny (model prog w) A (dictDisplay [(none, mt), (some kt, vt)]) Q E s := by
  unfold dictDisplay
  dsimp only
  refine wpAny_bind ?_
  rw [List.forIn_cons]
  refine wpAny_bind ?_
  rw [if_pos (show ([] : List (Sem Value × Sem Value)).isEmpty = true from rfl)]
  refine wpAny_bind (wpAny_pure ?_)
  dsimp only
  refine wpAny_bind (wpAny_alloc ?_)
  refine wpAny_bind (wpAny_holding ?_)
  refine wpAny_mono h (fun mv s1 h1 => ?_) fun _ _ e => e
  refine wpAny_bind (wpAny_onRaise (wpAny_tryCatch (wpAny_onRaise (wpAny_holding ?_))))
  refine wpAny_mono h1 (fun _ s2 h2 => ?_) fun _ _ e => e.elim
  refine wpAny_pure ?_
  dsimp only
  rw [List.forIn_cons]
  refine wpAny_bind ?_
  dsimp only
  rw [if_neg (by simp)]
  refine wpAny_pure ?_
  dsimp only
  rw [List.forIn_nil]
  refine wpAny_pure ?_
  dsimp only
  refine wpAny_bind ?_
  rw [if_neg (by simp)]
  refine wpAny_bind (wpAny_holding ?_)
  refine wpAny_mono h2 (fun sub s3 h3 => ?_) fun _ _ e => e
  refine wpAny_bind (wpAny_onRaise (wpAny_holding ?_))
  refine wpAny_mono h3 (fun _ s4 h4 => ?_) fun _ _ e => e.elim
  exact wpAny_pure (wpAny_pure h4)
end
section
variable {X : Cx} {a b c : Expr} {pos : Pos}
def tDispS (i j l : Nat) : TE := fun σ H Q => ∃ a kvs k v, σ[i]? = some (some (.ref a)) ∧ Rd H a (.dK kvs) ∧ σ[j]? = some (some (kV k)) ∧ σ[l]? = some (some v) ∧ kvs.length < sizeLine ∧
  ∀ p q, H p = none → H q = none → p ≠ q → Q (.ref p) (upd (upd H q (.dK [(k, v)])) p (.dK (putK kvs k v)))
theorem pe_dispS {i j l : Nat} (ha : PE X a (tVar i)) (hb : PE X b (tVar j)) (hc : PE X c (tVar l)) : PE X (.Dict [none, some b] [a, c] pos) (tDispS i j l) := by
  refine ⟨fun pins s σ H Q I h => ?_⟩
  obtain ⟨ad, kvs, k, v, e1, rd, e2, e3, hl, h⟩ := h
  have hp := I.hok.fresh (Nat.le_refl s.heap.objs.size)
  have I1 := I.laid (a := s.heap.objs.size) (o := .dK []) (h' := s.heap.push { cls := .type "dict", data := .dict #[] }) (t' := s.toks) (fun _ _ q => Heap.get?_push_of_some _ q) (Nat.le_refl _) (dk_empty s.heap I.big)
  generalize hpe : s.heap.objs.size = p at hp I1
  have nap : ad ≠ p := fun e => by
    subst e
    rcases rd with r | ⟨_, r⟩ <;> rw [hp] at r <;> cases r
  have rd1 : Rd (upd H p (.dK [])) ad (.dK kvs) := rd_mono (fun o e => by rw [upd_ne nap]; exact e) rd
  rw [arm_eval_Dict]
  refine wpAny_bind (wpAny_standAt ?_)
  refine disp_star (kt := eval b X.env) (vt := do let x ← eval c X.env; standAt pos; pure x) (mt := do let x ← eval a X.env; standAt pos; pure x) ?_
  rw [hpe]
  refine wpAny_bind (thn (ha.run pins _ σ _ (fun x H1 => x = .ref ad ∧ H1 = upd H p (.dK [])) I1 ⟨_, e1, rfl, rfl⟩) fun u s1 ⟨x, H1, I2, rx, ex, eH⟩ => ?_)
  subst ex eH
  obtain rfl : u = Value.ref ad := rx
  refine wpAny_bind (wpAny_standAt (wpAny_pure ?_))
  obtain ⟨z1, hd1, vs1, r1, dd1⟩ := dk_rd I2.hok rd1
  obtain ⟨z0, hd0, vs0, r0, dd0⟩ := dk_of I2.hok (upd_same (H := H) (a := p) (o := .dK []))
  cases r0
  have lv1 : vs1.length < sizeLine := by rw [← r1.length]; exact hl
  refine merge_pairs (Ne.symm nap) hd1 dd0 dd1 (by rw [List.length_nil]; omega) fun g1 dg1 sb1 => ?_
  have nn : (vs1.map (·.1)).Nodup := let ⟨_, _, _, _, _, _, _, _, q⟩ := dd1; q
  rw [merged_nil_of_nodup _ nn] at dg1
  have mu : ∀ {H : Hp} {a : Addr} {o : HO}, H a = some o → Mut (some o) → Mut (H a) := fun e m => by rw [e]; exact m
  have I3 := d_write (t' := s1.toks) I2 (mu upd_same True.intro) sb1 (let ⟨q, _, _, hq, _⟩ := dg1; ⟨q, hq⟩) (dk_new (H' := upd (upd H p (.dK [])) p (.dK kvs)) z1 hd0 r1 dg1)
  rw [upd_upd] at I3
  have hq := I3.hok.fresh (Nat.le_refl g1.objs.size)
  have I4 := I3.laid (a := g1.objs.size) (o := .dK []) (h' := g1.push { cls := .type "dict", data := .dict #[] }) (t' := s1.toks) (fun _ _ q => Heap.get?_push_of_some _ q) (Nat.le_refl _) (dk_empty g1 I3.big)
  have nqp : g1.objs.size ≠ p := fun e => by
    rw [e, upd_same] at hq
    cases hq
  have Hq0 : H g1.objs.size = none := by rw [upd_ne nqp] at hq; exact hq
  have fin := h p g1.objs.size hp Hq0 (Ne.symm nqp)
  refine wpAny_subDict (knd := mixKind X.prog X.w) (by simp) ?_
  have ps := pps_cons (pos := pos) hb hc pps_nil
  refine thn (ps.run pins _ σ _ (fun qs H1 => qs = [(kV k, v)] ∧ H1 = upd (upd H p (.dK kvs)) g1.objs.size (.dK [])) I4 ⟨_, e2, _, e3, rfl, rfl⟩) fun ws s5 ⟨qs, H5, I5, rel, eq5, eH⟩ => ?_
  subst eq5 eH
  obtain ⟨rs, car, rk⟩ := carries_of (P := X.prog) (w := X.w) (kvs := [(k, v)]) rel
  obtain ⟨z5, hd5, vs5, r5, dd5⟩ := dk_of I5.hok (upd_same (H := upd H p (.dK kvs)) (a := g1.objs.size) (o := .dK []))
  cases r5
  refine ⟨rs, car, dd5, fun g2 dg2 sb2 => ?_⟩
  have I6 := d_write (t' := s5.toks + ws.length) I5 (mu upd_same True.intro) sb2 (let ⟨q, _, _, hq, _⟩ := dg2; ⟨q, hq⟩)
    (dk_new (H' := upd (upd (upd H p (.dK kvs)) g1.objs.size (.dK [])) g1.objs.size (.dK (mergeK [] [(k, v)]))) (by rw [sizeLine_eq]; have := length_mergeK [(k, v)] []; simp at this; omega) hd5 (rk.merge .nil) dg2)
  rw [upd_upd] at I6
  have ek : mergeK [] [(k, v)] = [(k, v)] := rfl
  rw [ek] at I6
  have pa : upd (upd H p (.dK kvs)) g1.objs.size (.dK [(k, v)]) p = some (.dK kvs) := by rw [upd_ne (Ne.symm nqp)]; exact upd_same
  obtain ⟨z6, hd6, vs6, r6, dd6⟩ := dk_of I6.hok pa
  obtain ⟨z7, hd7, vs7, r7, dd7⟩ := dk_of I6.hok (upd_same (H := upd H p (.dK kvs)) (a := g1.objs.size) (o := .dK [(k, v)]))
  have l6 : vs6.length < sizeLine := by rw [← r6.length]; exact hl
  have l7 : vs7.length = 1 := by rw [← r7.length]; rfl
  refine merge_pairs (Ne.symm nqp) hd7 dd6 dd7 (by omega) fun g3 dg3 sb3 => ?_
  have lm : (mergeK kvs [(k, v)]).length ≤ sizeLine := by
    have := length_mergeK [(k, v)] kvs
    simp only [List.length_cons, List.length_nil] at this
    omega
  have I7 := d_write (t' := s5.toks + ws.length) I6 (mu pa True.intro) sb3 (let ⟨q, _, _, hq, _⟩ := dg3; ⟨q, hq⟩) (dk_new (H' := upd (upd (upd H p (.dK kvs)) g1.objs.size (.dK [(k, v)])) p (.dK (mergeK kvs [(k, v)]))) lm hd6 (r7.merge r6) dg3)
  refine ⟨.ref p, _, I7, rfl, ?_⟩
  have eH : upd (upd (upd H p (.dK kvs)) g1.objs.size (.dK [(k, v)])) p (.dK (mergeK kvs [(k, v)])) = upd (upd H g1.objs.size (.dK [(k, v)])) p (.dK (putK kvs k v)) := by
    funext x
    unfold upd
    by_cases e : x = p
    · rw [if_pos e, if_pos e]; rfl
    · rw [if_neg e, if_neg e, if_neg e]
  rw [eH]
  exact fin
end
def dDispS (i j l : Nat) : Env → Out D := fun ρ => match ρ[i]?, ρ[j]?, ρ[l]? with
  | some (some (.n (.dct ks) _ xs)), some (some (.a y)), some (some (.a z)) => (match keyOf y with
    | some k => if isFL xs = true ∧ xs.length < cap then .ok (.n (.dct (putKs ks k)) true (putXs ks xs k (.a z))) ρ else .st
    | none => .st)
  | _, _, _ => .st
section
variable {X : Cx} {cA : Str → Addr} {W : WX} {a b c : Expr} {pos : Pos}
theorem de_dispS {i j l : Nat} (ha : PE X a (tVar i)) (hb : PE X b (tVar j)) (hc : PE X c (tVar l)) : DE X cA W (dDispS i j l) (.Dict [none, some b] [a, c] pos) := de_of (pe_dispS ha hb hc) fun σ H Q Z L ρ r w p => by
  unfold dDispS at p
  split at p
  · rename_i ks o xs y z h1 h2 h3
    split at p
    · rename_i k hk
      split at p
      · rename_i hc
        obtain ⟨hf, hcap⟩ := hc
        obtain ⟨v, _, _, _, hv, hr, _, _, _⟩ := relL_at r h1
        obtain ⟨u, _, _, _, hu, ⟨eu, _⟩, _, _, _⟩ := relL_at r h2
        obtain ⟨t, _, _, _, ht, ⟨et, _⟩, _, _, _⟩ := relL_at r h3
        subst eu et
        obtain ⟨q, vs, g, ev, hp, hl, rx, ef, _⟩ := rep_dct hr
        have eg := repL_isF xs rx hf
        subst eg ev
        have lx := repL_len rx
        have hz : RepD X.K cA H Z (.a z) z.v [] := ⟨rfl, rfl⟩
        obtain ⟨ws, rw', lw, ew⟩ := put_rep (k := k) hz rx hl
        refine ⟨q, ks.zip vs, k, z.v, hv, .inl hp, by rw [hu, keyOf_v hk], ht, ?_, fun p1 q1 n1 n2 ne => ?_⟩
        · rw [List.length_zip, hl, Nat.min_self, lx]
          exact cap_lt hcap
        · rw [ew]
          have n1' : upd H q1 (.dK [(k, z.v)]) p1 = none := by rw [upd_ne ne]; exact n1
          have k1 : ∀ a o, H a = some o → upd H q1 (.dK [(k, z.v)]) a = some o := fun a o e => keep_new n2 a o e
          have k2 : ∀ a o, H a = some o → upd (upd H q1 (.dK [(k, z.v)])) p1 (.dK ((putKs ks k).zip ws)) a = some o := fun a o e => keep_new n1' a o (k1 a o e)
          have r1 : RelL X.K cA (upd H q1 (.dK [(k, z.v)])) Z ρ σ L := relL_mono (fun _ z => z) (fun a u _ e => k1 a u e) r
          have w1 : Wf (upd H q1 (.dK [(k, z.v)])) Z L := (wf_new w n2 (relL_trk r)).less (List.sublist_cons_self _ _)
          have F1 : Fr H Z L (upd H q1 (.dK [(k, z.v)])) Z L := (fr_new n2).less fun x m => by simp [m]
          exact p (.ref p1) _ Z L [p1] (relL_mono (fun _ z => z) (fun a u _ e => k2 a u e) r) (wf_new w1 n1' (relL_trk r1)) ⟨p1, ws, [], rfl, repL_mono _ (fun _ z => z) (fun a o _ e => k2 a o e) rw', ⟨upd_same, lw, fun z => nomatch z⟩, rfl, fun z => nomatch z⟩ (F1.trans (fr_new n1'))
      · exact p.elim
    · exact p.elim
  · exact p.elim
end
def dCallN (n k : Nat) (F : List D → FR) (g : Env → Out (List Ag)) : Env → Out D := fun ρ => match g ρ with
  | .ok ds ρ1 => (match agL ds with
    | some xs => (match xs[k]? with
      | some x => if xs.length = n then (match F (frzL (xs.take k) ++ (x :: frzL (xs.drop (k + 1)))) with
        | .rt d _ => .ok d ρ1
        | .ex e _ => .ex e ρ1
        | .st => .st) else .st
      | none => .st)
    | none => .st)
  | .ex e ρ1 => .ex e ρ1
  | .st => .st
section
variable {X : Cx} {cA : Str → Addr} {W : WX} {g : Env → Out (List Ag)}
theorem repL_part {K : PySem.W.Frag} {H : Hp} {Z : ZS} : ∀ {k : Nat} {xs : List D} {vs : List V} {fp : FP} {x : D}, RepL K cA H Z xs vs fp → xs[k]? = some x →
    ∃ us v ws g1 gx g2, vs = us ++ v :: ws ∧ RepL K cA H Z (xs.take k) us g1 ∧ RepD K cA H Z x v gx ∧ RepL K cA H Z (xs.drop (k + 1)) ws g2 ∧ fp = g1 ++ gx ++ g2
  | _, [], _, _, _, _, e => by simp at e
  | 0, y :: xs, vs, fp, x, h, e => by
    obtain ⟨v, vs', f1, f2, ev, h1, h2, ef⟩ := h
    have e : y = x := by simpa using e
    subst e
    exact ⟨[], v, vs', [], f1, f2, ev, ⟨rfl, rfl⟩, h1, h2, by rw [ef]; rfl⟩
  | k + 1, y :: xs, vs, fp, x, h, e => by
    obtain ⟨v, vs', f1, f2, ev, h1, h2, ef⟩ := h
    obtain ⟨us, u, ws, g1, gx, g2, e1, r1, r2, r3, e2⟩ := repL_part h2 (by simpa using e)
    exact ⟨v :: us, u, ws, f1 ++ g1, gx, g2, by rw [ev, e1]; rfl, ⟨v, us, f1, g1, rfl, h1, r1, rfl⟩, r2, r3, by rw [ef, e2]; simp⟩
theorem te_callN {K : PySem.W.Frag} {n k : Nat} {kio : Option Nat} {F : List D → FR} : ∀ σ H Q, TEof K cA W (dCallN n k F g) σ H Q → tCallS (spF K cA n kio F) (WE W) (TAof K cA W g) σ H Q := by
  rintro σ H Q ⟨Z, L, ρ, r, w, p⟩
  refine ⟨Z, L, ρ, r, w, ?_⟩
  unfold dCallN at p
  cases ha : g ρ with
  | st => rw [ha] at p; exact p
  | ex e ρ' => rw [ha] at p; exact p
  | ok ds ρ1 =>
    rw [ha] at p
    intro vs H1 Z1 L1 f1 r1 w1 h1 F1
    dsimp only at p
    split at p
    · rename_i xs hx
      split at p
      · rename_i x hk
        split at p
        · rename_i hn
          obtain ⟨us, v, ws, g1, gx, g2, ev, ra, rx, rb, ef⟩ := repL_part (repA_L hx h1) hk
          subst ev ef
          have pm : (g1 ++ gx ++ g2 ++ L1).Perm ((g1 ++ g2) ++ (gx ++ L1)) := by
            rw [List.append_assoc, List.append_assoc, List.append_assoc]
            exact List.Perm.append_left g1 ((List.perm_append_comm_assoc gx g2 L1))
          have tr : ∀ a ∈ g1 ++ g2, ∃ o, H1 a = some o := fun a m => (List.mem_append.mp m).elim (repL_trk _ ra a) (repL_trk _ rb a)
          have wz := (w1.perm pm).freeze tr
          have F1z : Fr H Z L H1 (ZU Z1 (g1 ++ g2)) (gx ++ L1) := Fr.freeze (F1.less fun a m => pm.mem_iff.mpr m)
          have r1z : RelL K cA H1 (ZU Z1 (g1 ++ g2)) ρ1 σ L1 := relL_zu r1
          have m1 : RepL K cA H1 (ZU Z1 (g1 ++ g2)) (frzL (xs.take k)) us [] := repL_frz _ zu_sub (fun a m => .inr (by simp [m])) ra
          have m2 : RepL K cA H1 (ZU Z1 (g1 ++ g2)) (frzL (xs.drop (k + 1))) ws [] := repL_frz _ zu_sub (fun a m => .inr (by simp [m])) rb
          have mx : RepD K cA H1 (ZU Z1 (g1 ++ g2)) x v gx := repD_mono x zu_sub (fun _ _ _ e => e) rx
          have hall : RepL K cA H1 (ZU Z1 (g1 ++ g2)) (frzL (xs.take k) ++ (x :: frzL (xs.drop (k + 1)))) (us ++ v :: ws) gx := by
            have := repL_append m1 (ys := x :: frzL (xs.drop (k + 1))) (ws := v :: ws) (g := gx) ⟨v, ws, gx, [], rfl, mx, m2, by simp⟩
            simpa using this
          have wzp : Wf H1 (ZU Z1 (g1 ++ g2)) (L1 ++ gx) := wz.perm List.perm_append_comm
          have lk : k < xs.length := (List.getElem?_eq_some_iff.mp hk).1
          have lu := repL_len ra
          have lw := repL_len rb
          rw [List.length_take] at lu
          rw [List.length_drop] at lw
          have lv : (us ++ v :: ws).length = n := by
            rw [List.length_append, List.length_cons]
            omega
          refine ⟨lv, _, _, gx, hall, wzp.less (List.sublist_append_right _ _), ?_⟩
          have back : ∀ {H2 Z2} {fp : FP}, Wf H2 Z2 fp → Fr H1 (ZU Z1 (g1 ++ g2)) gx H2 Z2 fp → RelL K cA H2 Z2 ρ1 σ L1 ∧ Wf H2 Z2 (fp ++ L1) ∧ Fr H Z L H2 Z2 (fp ++ L1) := by
            intro H2 Z2 fp w2 F2
            have w3 := wzp.wait (relL_trk r1z) F2 w2
            have F3 := (F1z.less (M := L1 ++ gx) fun a m => by simp at m ⊢; exact m.symm).wait wzp F2
            refine ⟨relL_mono F2.zm (fun a o m e => F2.keep a o e fun q => ?_) r1z, w3.perm List.perm_append_comm, F3.less fun a m => by simp at m ⊢; exact m.symm⟩
            rcases m with m | m
            · exact wzp.dj a (by simp [q]) m
            · exact (List.nodup_append.mp wzp.nd).2.2 a m a q rfl
          cases hF : F (frzL (xs.take k) ++ (x :: frzL (xs.drop (k + 1)))) with
          | st => rw [hF] at p; exact p.elim
          | rt d io =>
            rw [hF] at p
            intro v2 H2 Z2 fp g' ri h2 w2 F2
            obtain ⟨b1, b2, b3⟩ := back (w2.less (List.sublist_append_left _ _)) (F2.less fun a m => by simp [m])
            exact p v2 H2 Z2 L1 fp b1 b2 h2 b3
          | ex e io =>
            rw [hF] at p
            intro cls d H2 Z2 g' ri w2 x2 F2
            obtain ⟨b1, b2, b3⟩ := back (fp := []) (wf0 w2) (F2.less fun a m => nomatch m)
            exact p cls d H2 Z2 L1 b1 b2 x2 b3
        · exact p.elim
      · exact p.elim
    · exact p.elim
section
variable {k n j : Nat} {kio : Option Nat} {f : Addr} {ps : List Str} {F : List D → FR} {x : Str} {p pos : Pos} {e : Expr} {es : List Expr}
theorem de_callNG (Fo : OkC X.prog X.w X.K X.mg X.base f ps k (spF X.K cA n kio F)) (hr : Room k X.A) (hg : Gl X x) (hm : X.mg x = some (.ref f) ∧ PySem.W.keepIn X.K (.ref f) = true) (tk : Takes X W) (ha : DA X cA W g (e :: es)) (hdb : (x == ("__debug__" : Str)) = false := by kernel_rfl)
    (he : starEach (e :: es) X.env = (false, eval e X.env) :: starEach es X.env := by kernel_rfl) (hpl : (backTo pos (starEach es X.env)).any (·.1) = false := by kernel_rfl) : DE X cA W (dCallN n j F g) (.Call (.Name x p) (e :: es) [] pos) :=
  let ⟨fd, Fo, hb⟩ := Fo.ex
  PE.imp (pe_callS Fo hr hg hm.1 hm.2 hb (passAt tk) ha hdb he hpl) te_callN
end
end
end DL
namespace DC
open PySem L2 DL
def B_augment (rec : List D → FR) : DL.Env → Fl :=
  (dSeq (dFor (dIter (dCall 1 F_members (dACons (dOp2 gIx (dVar 0) (dVar 2)) dANil))) (tg1 4) (dIf (dB (dOp2 gNotIn (dVar 4) (dPeek 3))) (dSeq (dHas 3 (dBind (dVar 4) (stApp 3)))
  (dSeq (dIf (dB (dDIn true 1 (dVar 4))) (dBind (dDispS 1 4 2) fun d ρ => .rt d ρ) dNext)
  (dSeq (dBind (dFz (dCallL 4 (some 3) rec (dACons (dVar 0) (dACons (dVar 1) (dACons (dDGet 1 (dVar 4)) (dALent 3 dANil)))))) (stSet 5))
  (dIf (dB (dOp2 gIsNot (dVar 5) (dC .non))) (dBind (dDispS 5 4 2) fun d ρ => .rt d ρ) dNext)))) dNext))
  (dBind (dC .non) fun d ρ => .rt d ρ))
def R_augment : Nat → List D → FR
  | 0 => fun _ => .st
  | m + 1 => fnD 6 (some 3) (B_augment (R_augment m))
def F_augment : List D → FR := R_augment 12
def B_largest_matching : DL.Env → Fl :=
  (dSeq (dBind (dFz (fun ρ => .ok (.n (.dct []) true []) ρ)) (stSet 2))
  (dSeq (dFor (dRng1 (dU gLen (dVar 0))) (tg1 3) (dSeq (dBind (dFz (dCallN 4 3 F_augment (dACons (dVar 0) (dACons (dVar 2) (dACons (dVar 3) (dACons (dLst dANil) dANil)))))) (stSet 6))
  (dIf (dB (dOp2 gIsNot (dVar 6) (dC .non))) (dBind (dVar 6) (stSet 2)) dNext)))
  (dSeq (dBind (dLc [7] (dIter (dVar 0)) (tg1 7) dYes (dU gNeg (dC (.int 1)))) (stSet 4))
  (dSeq (dFrz 4 (dFor (dRng1 (dVar 1)) (tg1 5) (dIf (dB (dDIn false 2 (dVar 5))) (dBind (dVar 5) (stSub 4 (dDGet 2 (dVar 5)))) dNext)))
  (dBind (dU gTuple (dVar 4)) fun d ρ => .rt d ρ)))))
def F_largest_matching : List D → FR := fnD 8 none B_largest_matching
def B_least_cover : DL.Env → Fl :=
  (dSeq (dBind (fun ρ => .ok (.n (.dct []) true []) ρ) (stSet 3))
  (dSeq (dFrz 3 (dFor (dRng1 (dU gLen (dVar 2))) (tg1 4) (dIf (dB (dOp2 gGe (dOp2 gIx (dVar 2) (dVar 4)) (dC (.int 0)))) (dBind (dVar 4) (stDPut 3 (dOp2 gIx (dVar 2) (dVar 4)))) dNext)))
  (dSeq (dFrz 5 (dBind (dLc [4] (dRng1 (dU gLen (dVar 2))) (tg1 4) (dB (dOp2 gLt (dOp2 gIx (dVar 2) (dVar 4)) (dC (.int 0)))) (dVar 4)) (stSet 5)))
  (dSeq (dBind (dC (.int 0)) (stSet 6))
  (dSeq (dBind (dC (.int 0)) (stSet 7))
  (dSeq (whL (dB (dOp2 gLt (dVar 7) (dU gLen (dVar 5)))) (dSeq (dFor (dIter (dCall 1 F_members (dACons (dOp2 gIx (dVar 0) (dOp2 gIx (dVar 5) (dVar 7))) dANil))) (tg1 9) (dIf (dB (dOp2 gEq (dOp2 gAnd (dVar 6) (dOp2 gShl (dC (.int 1)) (dVar 9))) (dC (.int 0)))) (dSeq (dBind (dOp2 gOrB (dVar 6) (dOp2 gShl (dC (.int 1)) (dVar 9))) (stSet 6))
  (dIf (dAndT (dB (dDIn false 3 (dVar 9))) (dB (dOp2 gNotIn (dDGet 3 (dVar 9)) (dVar 5)))) (dBind (dFz (dOp2 gAdd (dVar 5) (dLst (dACons (dDGet 3 (dVar 9)) dANil)))) (stSet 5)) dNext)) dNext))
  (dAug 7 (fun a b => a + b) (dC (.int 1)))) 100000)
  (dSeq (dBind (dC (.int 0)) (stSet 8))
  (dSeq (dFor (dRng1 (dU gLen (dVar 2))) (tg1 4) (dIf (dB (dOp2 gNotIn (dVar 4) (dVar 5))) (dBind (dOp2 gOrB (dVar 8) (dOp2 gShl (dC (.int 1)) (dVar 4))) (stSet 8)) dNext))
  (dBind (dTup (dACons (dVar 8) (dACons (dVar 6) dANil))) fun d ρ => .rt d ρ)))))))))
def F_least_cover : List D → FR := fnD 10 none B_least_cover
def B_is_matching : DL.Env → Fl :=
  (dSeq (dBind (dLst dANil) (stSet 2))
  (dSeq (dIf (dOrT (dNotT (dB (dU (gIsi "tuple") (dVar 1)))) (dB (dOp2 gNe (dU gLen (dVar 1)) (dU gLen (dVar 0))))) (dBind (dC (.bl false)) fun d ρ => .rt d ρ) dNext)
  (dSeq (dFrz 2 (dFor (dRng1 (dU gLen (dVar 1))) (tg1 3) (dSeq (dBind (dOp2 gIx (dVar 1) (dVar 3)) (stSet 4))
  (dSeq (dIf (dOrT (dNotT (dB (dCall 1 F_is_integer (dACons (dVar 4) dANil)))) (dB (dOp2 gLt (dVar 4) (dU gNeg (dC (.int 1)))))) (dBind (dC (.bl false)) fun d ρ => .rt d ρ) dNext)
  (dIf (dB (dOp2 gGe (dVar 4) (dC (.int 0)))) (dSeq (dIf (dOrT (dB (dOp2 gEq (dOp2 gAnd (dOp2 gShr (dOp2 gIx (dVar 0) (dVar 3)) (dVar 4)) (dC (.int 1))) (dC (.int 0)))) (dB (dOp2 gIn (dVar 4) (dPeek 2)))) (dBind (dC (.bl false)) fun d ρ => .rt d ρ) dNext)
  (dHas 2 (dBind (dVar 4) (stApp 2)))) dNext)))))
  (dBind (dC (.bl true)) fun d ρ => .rt d ρ))))
def F_is_matching : List D → FR := fnD 5 none B_is_matching
def B_is_cover : DL.Env → Fl :=
  (dSeq (dIf (dOrT (dNotT (dB (dU (gIsi "tuple") (dVar 1)))) (dB (dOp2 gNe (dU gLen (dVar 1)) (dC (.int 2))))) (dBind (dC (.bl false)) fun d ρ => .rt d ρ) dNext)
  (dSeq (dBind (dFz (dVar 1)) (stTg (tgT [2, 3])))
  (dSeq (dIf (dOrT (dNotT (dB (dCall 2 F_is_set (dACons (dVar 2) (dACons (dU gLen (dVar 0)) dANil))))) (dOrT (dNotT (dB (dCall 1 F_is_integer (dACons (dVar 3) dANil)))) (dB (dOp2 gLt (dVar 3) (dC (.int 0)))))) (dBind (dC (.bl false)) fun d ρ => .rt d ρ) dNext)
  (dSeq (dFor (dRng1 (dU gLen (dVar 0))) (tg1 4) (dIf (dAndT (dB (dOp2 gEq (dOp2 gAnd (dVar 2) (dOp2 gShl (dC (.int 1)) (dVar 4))) (dC (.int 0)))) (dB (dOp2 gNe (dOp2 gAnd (dOp2 gIx (dVar 0) (dVar 4)) (dU gInv (dVar 3))) (dC (.int 0))))) (dBind (dC (.bl false)) fun d ρ => .rt d ρ) dNext))
  (dBind (dC (.bl true)) fun d ρ => .rt d ρ)))))
def F_is_cover : List D → FR := fnD 5 none B_is_cover
def B_law_bit : DL.Env → Fl :=
  (dBind (dOp2 gEq (dOp2 gMod (dOp2 gFdiv (dVar 0) (dOp2 gIx (dLst (dACons (dC (.int 1)) (dACons (dC (.int 2)) (dACons (dC (.int 4)) (dACons (dC (.int 8)) (dACons (dC (.int 16)) (dACons (dC (.int 32)) dANil))))))) (dVar 1))) (dC (.int 2))) (dC (.int 1))) fun d ρ => .rt d ρ)
def F_law_bit : List D → FR := fnD 2 none B_law_bit
end DC
namespace DC
open PySem L2 DL
theorem mulOk_of {a b : Int} {m n : Nat} (ha : Builtin.Int.intBits a ≤ m) (hb : Builtin.Int.intBits b ≤ n) (h : m + n ≤ 134217728) : mulOk a b = true := by
  unfold mulOk
  rw [decide_eq_true_eq]
  omega
theorem bits31 {t : Int} (h0 : 0 ≤ t) (h : t < 2147483647) : Builtin.Int.intBits t ≤ 31 := PySem.intBits_le_iff.mpr (by omega)
theorem bits_c {t : Int} {n : Nat} (h : t.natAbs < 2 ^ n) : Builtin.Int.intBits t ≤ n := PySem.intBits_le_iff.mpr h
theorem divOk_small {i j : Int} (h : 0 < j) (h2 : j < 1073741824) : divOk i j = true := by
  unfold divOk
  simp [h, h2]
@[irreducible] def bb (i : Nat) : Nat := 1048576 + 22 * i
def natD (n : Nat) : D := .a (.int (n : Int))
@[simp] theorem isF_natD {n : Nat} : isF (natD n) = true := rfl
@[simp] theorem frz_natD {n : Nat} : frz (natD n) = natD n := rfl
theorem seqIx_nat {v : Int} {n : Nat} (h0 : 0 ≤ v) (h : v < n) : seqIndex? v n = some v.toNat := by
  unfold seqIndex?
  have : ¬ v < 0 := by omega
  simp [this, h0, h]
end DC
namespace DC
open PySem L2 DL
@[simp] theorem frzL_nat {l : List Nat} : frzL (l.map natD) = l.map natD := frzL_map fun _ => rfl
@[simp] theorem isFL_nat {l : List Nat} : isFL (l.map natD) = true := isFL_map fun _ => rfl
end DC
namespace DC
open PySem L2 DL
theorem intL_get {lo : Int} {m k : Nat} {d : D} (h : (intL lo m)[k]? = some d) : d = .a (.int (lo + k)) ∧ k < m := by
  unfold intL at h
  rw [List.getElem?_map] at h
  cases e : (List.range m)[k]? with
  | none => rw [e] at h; cases h
  | some x =>
    rw [e] at h
    cases h
    have h2 := List.getElem?_eq_some_iff.mp e
    obtain ⟨h3, h4⟩ := h2
    simp at h3 h4
    subst h4
    exact ⟨rfl, h3⟩
theorem natD_get {l : List Nat} {k : Nat} {d : D} (h : (l.map natD)[k]? = some d) : ∃ x, l[k]? = some x ∧ d = natD x := by
  rw [List.getElem?_map] at h
  cases e : l[k]? with
  | none => rw [e] at h; cases h
  | some x => rw [e] at h; cases h; exact ⟨x, rfl, rfl⟩
def prD (p : Nat × Nat) : D := .n .tup false [natD p.1, natD p.2]
@[simp] theorem isF_prD {p : Nat × Nat} : isF (prD p) = true := rfl
@[simp] theorem frz_prD {p : Nat × Nat} : frz (prD p) = prD p := rfl
@[simp] theorem frzL_pr {l : List (Nat × Nat)} : frzL (l.map prD) = l.map prD := frzL_map fun _ => rfl
@[simp] theorem isFL_pr {l : List (Nat × Nat)} : isFL (l.map prD) = true := isFL_map fun _ => rfl
def PsOk (n : Nat) (r : Nat → Nat) (ps : List (Nat × Nat)) : Prop := ∀ p ∈ ps, p.1 < n ∧ p.2 < n ∧ r p.1 < r p.2
def Acyc (n : Nat) (ps : List (Nat × Nat)) : Prop := ∃ r : Nat → Nat, PsOk n r ps
end DC
namespace DC
open PySem L2 DL
def vec (n : Nat) (f : Nat → D) : List D := (List.range n).map f
@[simp] theorem vec_len {n : Nat} {f : Nat → D} : (vec n f).length = n := by simp [vec]
theorem vec_get {n i : Nat} {f : Nat → D} (h : i < n) : (vec n f)[i]? = some (f i) := by simp [vec, h]
theorem vec_get' {n i : Nat} {f : Nat → D} {d : D} (h : (vec n f)[i]? = some d) : i < n ∧ d = f i := by
  have hi := (List.getElem?_eq_some_iff.mp h).1
  rw [vec_len] at hi
  rw [vec_get hi] at h
  cases h
  exact ⟨hi, rfl⟩
theorem vec_set {n i : Nat} {f : Nat → D} {d : D} : (vec n f).set i d = vec n (fun j => if j = i then d else f j) := by
  apply List.ext_getElem?
  intro j
  by_cases hj : j < n
  · rw [vec_get hj]
    by_cases e : i = j
    · subst e
      rw [List.getElem?_set_self (by rw [vec_len]; exact hj), if_pos rfl]
    · rw [List.getElem?_set_ne e, vec_get hj, if_neg fun z => e z.symm]
  · rw [List.getElem?_eq_none (by rw [List.length_set, vec_len]; omega), List.getElem?_eq_none (by rw [vec_len]; omega)]
theorem isFL_vec {n : Nat} {f : Nat → D} (h : ∀ i, i < n → isF (f i) = true) : isFL (vec n f) = true := isFL_all.mpr fun x hx => by
  obtain ⟨i, hi, e⟩ := List.mem_map.mp hx
  rw [← e]
  exact h i (by simpa using hi)
theorem frzL_eq : ∀ xs : List D, frzL xs = xs.map frz
  | [] => rfl
  | x :: xs => by rw [frzL_cons, frzL_eq xs]; rfl
theorem frzL_vec {n : Nat} {f : Nat → D} : frzL (vec n f) = vec n (fun i => frz (f i)) := by
  rw [frzL_eq]; unfold vec; rw [List.map_map]; rfl
theorem ixN_nat {n i : Nat} (h : i < n) : ixN n (i : Int) = some i := by
  unfold ixN
  have : ((i : Int) < (n : Int)) := by omega
  simp [this]
theorem atI_nat {α : Type} {xs : List α} {i : Nat} {x : α} (h : xs[i]? = some x) : atI xs (i : Int) = some x := by
  unfold atI
  rw [ixN_nat (List.getElem?_eq_some_iff.mp h).1]
  exact h
theorem ixL {xs : List D} {i : Nat} {d : D} {o : Bool} (h : xs[i]? = some d) : gIxO (.n .lst o xs) (.a (.int (i : Int))) = some d := atI_nat h
theorem ixT {xs : List D} {i : Nat} {d : D} {o : Bool} (h : xs[i]? = some d) : gIxO (.n .tup o xs) (.a (.int (i : Int))) = some d := atI_nat h
abbrev Tb : Type := Nat → Nat → Bool
def stepT (T : Tb) (y x : Nat) : Tb := fun a b => if a = x then T a b || (T x y && T y b) else T a b
def warX (T : Tb) (y : Nat) : Nat → Tb
  | 0 => T
  | k + 1 => stepT (warX T y k) y k
def war (T : Tb) (n : Nat) : Nat → Tb
  | 0 => T
  | k + 1 => warX (war T n k) k n
def base (ps : List (Nat × Nat)) : Tb := fun x y => decide ((x, y) ∈ ps)
def clo (n : Nat) (ps : List (Nat × Nat)) : Tb := war (base ps) n n
def Up (n : Nat) (r : Nat → Nat) (T : Tb) : Prop := ∀ a b, T a b = true → a < n ∧ b < n ∧ r a < r b
theorem up_step {n : Nat} {r : Nat → Nat} {T : Tb} (h : Up n r T) (y x : Nat) : Up n r (stepT T y x) := by
  intro a b hab
  unfold stepT at hab
  split at hab
  · rename_i e
    subst e
    rw [Bool.or_eq_true, Bool.and_eq_true] at hab
    rcases hab with hab | ⟨h1, h2⟩
    · exact h a b hab
    · exact ⟨(h _ _ h1).1, (h _ _ h2).2.1, Nat.lt_trans (h _ _ h1).2.2 (h _ _ h2).2.2⟩
  · exact h a b hab
theorem up_warX {n : Nat} {r : Nat → Nat} {T : Tb} (h : Up n r T) (y : Nat) : ∀ k, Up n r (warX T y k)
  | 0 => h
  | k + 1 => up_step (up_warX h y k) y k
theorem up_war {n : Nat} {r : Nat → Nat} {T : Tb} (h : Up n r T) : ∀ k, Up n r (war T n k)
  | 0 => h
  | k + 1 => up_warX (up_war h k) k n
theorem up_base {n : Nat} {r : Nat → Nat} {ps : List (Nat × Nat)} (h : PsOk n r ps) : Up n r (base ps) := fun a b hab => h (a, b) (by simpa [base] using hab)
theorem up_clo {n : Nat} {r : Nat → Nat} {ps : List (Nat × Nat)} (h : PsOk n r ps) : Up n r (clo n ps) := up_war (up_base h) n
def mask (n : Nat) (f : Nat → Bool) : Nat := (List.range n).foldl (fun m z => if f z = true then m ||| 2 ^ z else m) 0
theorem mask_succ {n : Nat} {f : Nat → Bool} : mask (n + 1) f = if f n = true then mask n f ||| 2 ^ n else mask n f := by
  unfold mask
  rw [List.range_succ, List.foldl_append]
  rfl
theorem mask_bit {f : Nat → Bool} {z : Nat} : ∀ {n : Nat}, (mask n f).testBit z = (decide (z < n) && f z)
  | 0 => by simp [mask]
  | n + 1 => by
    rw [mask_succ]
    have ih := mask_bit (f := f) (z := z) (n := n)
    by_cases hz : z = n
    · subst hz
      cases hf : f z with
      | true => simp [hf, Nat.testBit_or, Nat.testBit_two_pow]
      | false => simp [hf, ih]
    · have h1 : decide (z < n + 1) = decide (z < n) := by
        apply decide_eq_decide.mpr
        omega
      rw [h1]
      split
      · rw [Nat.testBit_or, ih, Nat.testBit_two_pow]
        have : ¬ n = z := fun e => hz e.symm
        simp [this]
      · exact ih
theorem bor_nat (a b : Nat) : Builtin.bitOr (a : Int) (b : Int) = ((a ||| b : Nat) : Int) := by
  unfold Builtin.bitOr Builtin.bitAnd Builtin.bitNot
  have h1 : ¬ (0 : Int) ≤ -(a : Int) - 1 := by omega
  have h2 : ¬ (0 : Int) ≤ -(b : Int) - 1 := by omega
  simp only [decide_eq_false h1, decide_eq_false h2]
  have e1 : (-(-(a : Int) - 1) - 1).toNat = a := by omega
  have e2 : (-(-(b : Int) - 1) - 1).toNat = b := by omega
  rw [e1, e2]
  omega
end DC
namespace DC
open PySem L2 DL
theorem so_ixTF {n x : Nat} {f : Nat → D} {o : Bool} {P : D → Prop} (h : x < n) (hf : isF (f x) = true) : SO (gIx (.n .tup o (vec n f)) (.a (.int (x : Int)))) P = P (f x) := by
  unfold gIx
  rw [ixT (vec_get h)]
  simp [hf]
theorem so_ixN {n x : Nat} {P : Nat → Prop} (h : x < n) : SO (ixN n (x : Int)) P = P x := by rw [ixN_nat h]; rfl
theorem o_shl1 {y : Nat} {P : D → Prop} (h : y ≤ 1000000) : SO (gShl (.a (.int 1)) (.a (.int (y : Int)))) P = P (.a (.int ((2 ^ y : Nat) : Int))) := by
  rw [o_shl]
  have : powOk 1 (y : Int) = true := by
    unfold powOk
    have h2 : (y : Int) ≤ 1000000 := by omega
    simp [h2]
  simp [this]
def mrow (n : Nat) (T : Tb) (x : Nat) : D := .a (.int ((mask n (T x) : Nat) : Int))
@[simp] theorem isF_mrow {n : Nat} {T : Tb} {x : Nat} : isF (mrow n T x) = true := rfl
@[simp] theorem frzL_mrow {n m : Nat} {T : Tb} : frzL (vec m (mrow n T)) = vec m (mrow n T) := by rw [frzL_vec]; rfl
@[simp] theorem isFL_mrow {n m : Nat} {T : Tb} : isFL (vec m (mrow n T)) = true := isFL_vec fun _ _ => rfl
end DC
namespace DC
open PySem L2 DL
theorem isint_eq (i : Int) : F_is_integer [.a (.int i)] = .rt (.a (.bl true)) none := by
  apply wf_eq
  unfold F_is_integer
  rw [wf_fn]
  unfold B_is_integer
  simp [ioOf, o_isi (t := "int") (d := .a (.int i)) rfl, isiT]
def ordD (n : Nat) (ms : List D) : D := .n (.ins "Order" ["n", "above"]) false [.a (.int (n : Int)), .n .tup false ms]
end DC
namespace DL
open PySem L2
def asA (d : D) (P : At → Prop) : Prop := match d with
  | .a x => P x
  | _ => False
@[simp] theorem asA_a {x : At} {P : At → Prop} : asA (.a x) P = P x := rfl
def asIA (a : At) (P : Int → Prop) : Prop := match a with
  | .int i => P i
  | _ => False
@[simp] theorem asIA_int {i : Int} {P : Int → Prop} : asIA (.int i) P = P i := rfl
section
variable {ρ : DL.Env} {i : Nat} {Q : Ps} {d : D}
@[simp] theorem q_Var {P : At → Prop} : SO (qVar i ρ) P = SO (ρ[i]?) fun o => SO o fun d => asA d P := by
  unfold qVar
  split
  · rename_i x h; rw [h]; rfl
  · rename_i h
    cases e : ρ[i]? with
    | none => rfl
    | some o =>
      cases o with
      | none => rfl
      | some d =>
        cases d with
        | a x => exact absurd e (h x)
        | n _ _ _ => rfl
@[simp] theorem q_Op {f : Int → Int → Int} {g h : DL.Env → Option At} {P : At → Prop} : SO (qOp f g h ρ) P = SO (g ρ) fun a => SO (h ρ) fun b => asIA a fun i => asIA b fun j => P (.int (f i j)) := by
  unfold qOp
  cases e1 : g ρ with
  | none => rfl
  | some a =>
    cases e2 : h ρ with
    | none => cases a <;> rfl
    | some b => cases a <;> cases b <;> rfl
@[simp] theorem p_Sub2 {qa qb : DL.Env → Option At} : WP Q (stSub2 i qa qb d ρ) = SO (ρ[i]?) fun o => SO o fun x => asL x fun xs => SO (qa ρ) fun a => SO (qb ρ) fun b => asIA a fun a => asIA b fun b => SO (ixN xs.length a) fun j => SO (xs[j]?) fun row => asL row fun ys => SO (ixN ys.length b) fun l => isF d = true ∧ Q.nx (ρ.set i (some (.lst true (xs.set j (.lst true (ys.set l d)))))) := by
  unfold stSub2
  split
  · rename_i xs h
    rw [h]
    dsimp only [so_some, asL_lst]
    cases e1 : qa ρ with
    | none => rfl
    | some a =>
      cases e2 : qb ρ with
      | none => cases a <;> rfl
      | some b =>
        cases a with
        | int a =>
          cases b with
          | int b =>
            dsimp only [so_some, asIA_int]
            cases ixN xs.length a with
            | none => rfl
            | some j =>
              dsimp only [so_some]
              split
              · rename_i ys h2
                rw [h2]
                dsimp only [so_some, asL_lst]
                cases ixN ys.length b with
                | none => rfl
                | some l =>
                  dsimp only [so_some]
                  split
                  · rename_i h3; simp [h3]
                  · rename_i h3; simp [h3, WP]
              · rename_i h2
                cases e : xs[j]? with
                | none => rfl
                | some x =>
                  dsimp only [so_some]
                  rw [asL_cases fun ys z => h2 ys (by rw [e, z])]
                  rfl
          | _ => rfl
        | _ => rfl
  · rename_i h
    cases e : ρ[i]? with
    | none => rfl
    | some o =>
      cases o with
      | none => rfl
      | some d =>
        dsimp only [so_some]
        rw [asL_cases fun xs z => h xs (by rw [e, z])]
        rfl
@[simp] theorem w_Yes {E : Exn → DL.Env → Prop} {P : Bool → DL.Env → Prop} : WO E P (dYes ρ) = P true ρ := rfl
@[simp] theorem wipeE_nil : wipeE ρ [] = ρ := rfl
@[simp] theorem wipeE_cons {v : Nat} {vs : List Nat} : wipeE ρ (v :: vs) = (wipeE ρ vs).set v none := rfl
variable {ρ1 : DL.Env} {v : Nat} {vs : List Nat}
@[simp] theorem backE_nil : backE ρ1 [] ρ = ρ := rfl
@[simp] theorem backE_none (h : ρ1[v]? = some none) : backE ρ1 (v :: vs) ρ = backE ρ1 vs ρ := by
  conv => lhs; unfold backE
  rw [h]
@[simp] theorem backE_some (h : ρ1[v]? = some (some d)) (hf : isF d = true) (hl : v < (backE ρ1 vs ρ).length) : backE ρ1 (v :: vs) ρ = (backE ρ1 vs ρ).set v (some d) := by
  conv => lhs; unfold backE
  rw [h]
  simp [hf, hl]
end
end DL
namespace DC
open PySem L2 DL
theorem intL_vec (n : Nat) : intL 0 n = vec n fun i => .a (.int (i : Int)) := by
  unfold intL vec
  apply List.map_congr_left
  intro a _
  simp
theorem vec_filter {n : Nat} {f : Nat → D} {tb : D → Bool} : (vec n f).filter tb = ((List.range n).filter fun i => tb (f i)).map f := by
  unfold vec
  rw [List.filter_map]
  rfl
theorem mem_vec {n : Nat} {f : Nat → D} {d : D} (h : d ∈ vec n f) : ∃ i, i < n ∧ d = f i := by
  obtain ⟨i, hi, e⟩ := List.mem_map.mp h
  exact ⟨i, by simpa using hi, e.symm⟩
@[simp] theorem o_itL {o : Bool} {xs : List D} {P : List D → Prop} : SO (itemsOf (.n .lst o xs)) P = (xs.length ≤ 1000000 ∧ P xs) := by
  unfold itemsOf
  by_cases h : xs.length ≤ 1000000 <;> simp [h]
@[simp] theorem o_itT {o : Bool} {xs : List D} {P : List D → Prop} : SO (itemsOf (.n .tup o xs)) P = (xs.length ≤ 1000000 ∧ P xs) := by
  unfold itemsOf
  by_cases h : xs.length ≤ 1000000 <;> simp [h]
def brow (o : Bool) (n : Nat) (T : Tb) (x : Nat) : D := .n .lst o (vec n fun y => .a (.bl (T x y)))
theorem isFL_brow {n : Nat} {T : Tb} : isFL (vec n (brow false n T)) = true := isFL_vec fun i _ => by
  unfold brow
  rw [isF_n, isFL_vec fun _ _ => rfl]
  rfl
end DC
namespace DC
open PySem L2 DL
def tbI (f : Nat → Bool) : D → Bool
  | .a (.int i) => f i.toNat
  | _ => false
theorem filter_vecI {n : Nat} {f : Nat → Bool} : ((vec n fun i => .a (.int (i : Int))).filter (tbI f)).map (fun d => d) = ((List.range n).filter f).map natD := by
  rw [vec_filter, List.map_map]
  unfold natD
  congr 1
theorem filter_range {f : Nat → Bool} {a : Nat} (h : ∀ z, a ≤ z → f z = false) : ∀ c, a ≤ c → (List.range c).filter f = (List.range a).filter f
  | 0, hc => by
    have : a = 0 := by omega
    rw [this]
  | c + 1, hc => by
    by_cases e : a = c + 1
    · rw [e]
    · rw [List.range_succ, List.filter_append, filter_range h c (by omega)]
      simp [h c (by omega)]
theorem bits_nat_lt (m : Nat) : m < 2 ^ Builtin.Int.intBits (m : Int) := by
  have := PySem.intBits_le_iff.mp (Nat.le_refl (Builtin.Int.intBits (m : Int)))
  simpa using this
theorem shr_bit (m x : Nat) : decide (Builtin.bitAnd ((m : Int) / 2 ^ x) 1 = 1) = m.testBit x := by
  rw [PyProof.Rows.bitAnd_m1, Nat.testBit_eq_decide_div_mod_eq]
  congr 1
  have : ((m : Int) / 2 ^ x) = ((m / 2 ^ x : Nat) : Int) := by simp
  rw [this]
  simp only [eq_iff_iff]
  omega
theorem members_eq {m n : Nat} (hm : m < 2 ^ n) (hn : n ≤ 100) : F_members [.a (.int (m : Int))] = .rt (.n .tup false (((List.range n).filter m.testBit).map natD)) none := by
  have hb : Builtin.Int.intBits (m : Int) ≤ n := PySem.intBits_le_iff.mpr (by simpa using hm)
  have hf : ∀ c, Builtin.Int.intBits (m : Int) ≤ c → (List.range c).filter m.testBit = (List.range (Builtin.Int.intBits (m : Int))).filter m.testBit := fun c hc => filter_range (fun z hz => Nat.testBit_lt_two_pow (Nat.lt_of_lt_of_le (bits_nat_lt m) (Nat.pow_le_pow_right (by decide) hz))) c hc
  apply wf_eq
  unfold F_members
  rw [wf_fn]
  unfold B_members
  simp [ioOf, intL_vec]
  refine ⟨by omega, ?_⟩
  rw [lcL_run (tbI m.testBit) (fun d => d)]
  · rw [wo_ok, filter_vecI, hf n hb]
    simp
  · intro d hd
    obtain ⟨i, hi, rfl⟩ := mem_vec hd
    simp [shr_bit, tbI]
theorem isF_ord {n : Nat} {ms : List D} (h : isFL ms = true) : isF (ordD n ms) = true := by
  unfold ordD
  simp [h]
abbrev ordT (n : Nat) (T : Tb) : D := ordD n (vec n (mrow n T))
theorem isF_ordT {n : Nat} {T : Tb} : isF (ordT n T) = true := isF_ord isFL_mrow
end DC
namespace DC
open PySem L2 DL
def Bd (n : Nat) (ps : List (Nat × Nat)) : Prop := ∀ p ∈ ps, p.1 < n ∧ p.2 < n
theorem Acyc.bd {n : Nat} {ps : List (Nat × Nat)} (h : Acyc n ps) : Bd n ps := by
  obtain ⟨r, hr⟩ := h
  exact fun p hp => ⟨(hr p hp).1, (hr p hp).2.1⟩
theorem Acyc.up {n : Nat} {ps : List (Nat × Nat)} (h : Acyc n ps) : ∃ r : Nat → Nat, Up n r (clo n ps) := by
  obtain ⟨r, hr⟩ := h
  exact ⟨r, up_clo hr⟩
end DC
namespace DC
open PySem L2 DL
theorem mask_lt (n : Nat) (f : Nat → Bool) : mask n f < 2 ^ n := by
  apply Nat.lt_pow_two_of_testBit
  intro i hi
  rw [mask_bit]
  simp [show ¬ i < n by omega]
end DC
namespace DC
open PySem L2 DL
end DC
namespace DC
open PySem L2 DL
end DC
namespace DC
open PySem L2 DL
end DC
namespace DC
open PySem L2 DL
def Nms (d : D) : Prop := ∃ l : List Nat, d = .lst true (l.map natD) ∧ (∀ x ∈ l, x < 1009) ∧ l.length ≤ 10000
theorem next_wf {st : D} (h : Nms st) (m : Int) (hm : 0 < m) : WF NoE (fun d io => ∃ v : Int, d = .int v ∧ 0 ≤ v ∧ v < m ∧ ∃ st', io = some st' ∧ Nms st') (F_law_next [st, .int m]) := by
  obtain ⟨l, rfl, hx, hl⟩ := h
  unfold F_law_next
  rw [wf_fn]
  unfold B_law_next
  cases l with
  | nil =>
    simp [ioOf]
    exact ⟨hm, [], by simp, by simp, by simp⟩
  | cons a l =>
    have hs : seqIndex? 0 (l.length + 1) = some 0 := by
      have := seqIx_nat (v := 0) (n := l.length + 1) (by omega) (by omega)
      simpa using this
    have hne : ¬ ((l.length : Int) + 1 = 0) := by omega
    simp [ioOf, hs, hne, natD]
    refine ⟨hm, Int.emod_nonneg _ (by omega), Int.emod_lt_of_pos _ hm, l, rfl, fun x hx' => hx x (by simp [hx']), by simp at hl; omega⟩
end DC
namespace DC
open PySem L2 DL
def Irr (n : Nat) (T : Tb) : Prop := ∀ x, x < n → T x x = false
end DC
namespace DL
open PySem L2
@[irreducible] def WX (Q : Ps) (f : DL.Env → Fl) (ρ : DL.Env) : Prop := WP Q (f ρ)
@[simp] theorem wx {Q : Ps} {f : DL.Env → Fl} {ρ : DL.Env} : WX Q f ρ = WP Q (f ρ) := by unfold WX; rfl
theorem wp_step {Q : Ps} {f g : DL.Env → Fl} {ρ : DL.Env} (h : ∀ K : DL.Env → Prop, (∀ ρ', WP Q (g ρ') → K ρ') → WX ⟨K, Q.rt, Q.bk, Q.ct, Q.ex⟩ f ρ) : WP Q (dSeq f g ρ) := by
  rw [p_Seq]
  have := h _ fun _ h => h
  rwa [wx] at this
theorem wp_cut {Q : Ps} {f g : DL.Env → Fl} {ρ : DL.Env} (R : DL.Env → Prop) (h1 : WP ⟨R, Q.rt, Q.bk, Q.ct, Q.ex⟩ (f ρ)) (h2 : ∀ ρ', R ρ' → WP Q (g ρ')) : WP Q (dSeq f g ρ) := by
  rw [p_Seq]
  cases hf : f ρ with
  | nx ρ1 => rw [hf] at h1; exact h2 _ h1
  | rt d ρ1 => rw [hf] at h1; exact h1
  | bk ρ1 => rw [hf] at h1; exact h1
  | ct ρ1 => rw [hf] at h1; exact h1
  | ex e ρ1 => rw [hf] at h1; exact h1
  | st => rw [hf] at h1; exact h1
theorem wp_cutK {Q : Ps} {f g : DL.Env → Fl} {ρ : DL.Env} (R : DL.Env → Prop) (h1 : ∀ K : DL.Env → Prop, (∀ ρ', R ρ' → K ρ') → WX ⟨K, Q.rt, Q.bk, Q.ct, Q.ex⟩ f ρ) (h2 : ∀ ρ', R ρ' → WP Q (g ρ')) : WP Q (dSeq f g ρ) := wp_cut R (by have := h1 R fun _ h => h; rwa [wx] at this) h2
section
variable {C : Str} {F : List D → FR} {fs gs : List Str} {xs ys : List D} {b neg : Bool} {io : Option D} {P : D → Prop}
end
end DL
namespace DC
open PySem L2 DL
instance {n : Nat} {T : Tb} : Decidable (Irr n T) := inferInstanceAs (Decidable (∀ x, x < n → T x x = false))
end DC
namespace DL
open PySem L2
theorem get_set_self {ρ : DL.Env} {i : Nat} {o : Option D} (h : i < ρ.length) : (ρ.set i o)[i]? = some o := by rw [List.getElem?_set_self h]
theorem get_set_ne {ρ : DL.Env} {i j : Nat} {o : Option D} (h : i ≠ j) : (ρ.set i o)[j]? = ρ[j]? := by rw [List.getElem?_set_ne h]
theorem set_set {ρ : DL.Env} {i : Nat} {o o' : Option D} : (ρ.set i o).set i o' = ρ.set i o' := List.set_set ..
theorem back_same {ρ : DL.Env} {v : Nat} (h : ∀ d, ρ[v]? = some (some d) → isF d = true) : backE ρ [v] (wipeE ρ [v]) = ρ := by
  rw [wipeE_cons, wipeE_nil]
  unfold backE
  cases e : ρ[v]? with
  | none =>
    rw [backE_nil]
    have hl : ρ.length ≤ v := List.getElem?_eq_none_iff.mp e
    exact List.set_eq_of_length_le hl
  | some o =>
    have hl : v < ρ.length := (List.getElem?_eq_some_iff.mp e).1
    cases o with
    | none =>
      dsimp only
      rw [backE_nil]
      apply List.ext_getElem?
      intro j
      by_cases q : v = j
      · subst q; rw [List.getElem?_set_self hl, e]
      · rw [List.getElem?_set_ne q]
    | some d =>
      dsimp only
      rw [backE_nil, if_pos ⟨h d e, by rw [List.length_set]; exact hl⟩, List.set_set]
      apply List.ext_getElem?
      intro j
      by_cases q : v = j
      · subst q; rw [List.getElem?_set_self hl, e]
      · rw [List.getElem?_set_ne q]
theorem w_lcF {E : Exn → DL.Env → Prop} {P : D → DL.Env → Prop} {ρ : DL.Env} {v : Nat} {src : DL.Env → Out (List D)} {t : DL.Env → Out Bool} {f : DL.Env → Out D} {ds : List D} (tb : D → Bool) (fv : D → D) (hv : ∀ d, ρ[v]? = some (some d) → isF d = true) (hl : v < ρ.length) (hsrc : src ρ = .ok ds ρ) (hc : ds.length ≤ 1000000)
    (ht : ∀ d ∈ ds, t (ρ.set v (some d)) = .ok (tb d) (ρ.set v (some d))) (hf : ∀ d ∈ ds, tb d = true → f (ρ.set v (some d)) = .ok (fv d) (ρ.set v (some d))) :
    WO E P (dLc [v] src (tg1 v) t f ρ) = P (.lst true ((ds.filter tb).map fv)) ρ := by
  rw [w_Lc, hsrc]
  simp only [wo_ok, capv, hc, true_and]
  have hw : wipeE ρ [v] = ρ.set v none := rfl
  rw [lcL_run tb fv]
  · rw [wo_ok, hw]
    have : wipeE (ρ.set v none) [v] = wipeE ρ [v] := by simp [wipeE]
    rw [this, back_same hv]
  · intro d hd
    rw [hw]
    rw [s_tg1]
    refine ⟨by rw [List.length_set]; exact hl, ?_⟩
    rw [List.set_set, ht d hd, wo_ok]
    refine ⟨rfl, ?_⟩
    cases h : tb d with
    | true =>
      rw [if_pos rfl, hf d hd h, wo_ok]
      exact ⟨rfl, by simp [wipeE]⟩
    | false =>
      rw [if_neg (by decide)]
      simp [wipeE]
theorem w_lcA {E : Exn → DL.Env → Prop} {P : D → DL.Env → Prop} {ρ : DL.Env} {v : Nat} {src : DL.Env → Out (List D)} {f : DL.Env → Out D} {ds : List D} (fv : D → D) (hv : ∀ d, ρ[v]? = some (some d) → isF d = true) (hl : v < ρ.length) (hsrc : src ρ = .ok ds ρ) (hc : ds.length ≤ 1000000)
    (hf : ∀ d ∈ ds, f (ρ.set v (some d)) = .ok (fv d) (ρ.set v (some d))) : WO E P (dLc [v] src (tg1 v) dYes f ρ) = P (.lst true (ds.map fv)) ρ := by
  rw [w_lcF (t := dYes) (fun _ => true) fv hv hl hsrc hc (fun d hd => rfl) (fun d hd _ => hf d hd)]
  have : ds.filter (fun _ => true) = ds := List.filter_eq_self.mpr fun _ _ => rfl
  rw [this]
theorem out_eq {α : Type} {o : Out α} {x : α} {ρ : DL.Env} (h : WO NoE (fun y ρ' => y = x ∧ ρ' = ρ) o) : o = .ok x ρ := by
  cases o with
  | ok y ρ' => obtain ⟨rfl, rfl⟩ := h; rfl
  | ex e ρ' => exact h.elim
  | st => exact h.elim
end DL
namespace DC
open PySem L2 DL
def natOf : D → Nat
  | .a (.int i) => i.toNat
  | _ => 0
@[simp] theorem natOf_int {i : Nat} : natOf (.a (.int (i : Int))) = i := rfl
@[simp] theorem natOf_natD {i : Nat} : natOf (natD i) = i := rfl
end DC
namespace DL
open PySem L2
theorem lcL_noex {vs : List Nat} {g : D → DL.Env → Option DL.Env} {t : DL.Env → Out Bool} {f : DL.Env → Out D} : ∀ {ds : List D} {ρ : DL.Env} (e : Exn) (ρ' : DL.Env), lcL vs g t f ds ρ ≠ .ex e ρ'
  | [], ρ, e, ρ' => by unfold lcL; exact fun h => nomatch h
  | d :: ds, ρ, e, ρ' => by
    unfold lcL
    cases g d ρ with
    | none => exact fun h => nomatch h
    | some ρ1 =>
      dsimp only
      cases t ρ1 with
      | st => exact fun h => nomatch h
      | ex e ρ2 => exact fun h => nomatch h
      | ok b ρ2 =>
        cases b with
        | false => exact lcL_noex e ρ'
        | true =>
          dsimp only
          cases f ρ2 with
          | st => exact fun h => nomatch h
          | ex e ρ3 => exact fun h => nomatch h
          | ok y ρ3 =>
            dsimp only
            cases lcL vs g t f ds (wipeE ρ3 vs) <;> exact fun h => nomatch h
theorem wo_lcL {E : Exn → DL.Env → Prop} {P : List D → DL.Env → Prop} {vs : List Nat} {g : D → DL.Env → Option DL.Env} {t : DL.Env → Out Bool} {f : DL.Env → Out D} {ds : List D} {ρ : DL.Env} (I : Nat → List D → DL.Env → Prop) (h0 : I 0 [] ρ)
    (hs : ∀ i d ys ρ, ds[i]? = some d → I i ys ρ → SO (g d ρ) fun ρ1 => WO NoE (fun b ρ2 => if b = true then WO NoE (fun y ρ3 => I (i + 1) (ys ++ [y]) (wipeE ρ3 vs)) (f ρ2) else I (i + 1) ys (wipeE ρ2 vs)) (t ρ1))
    (he : ∀ ys ρ, I ds.length ys ρ → P ys ρ) : WO E P (lcL vs g t f ds ρ) := by
  have key : ∀ (es : List D) (k : Nat) (ys : List D) (ρ : DL.Env) (P' : List D → DL.Env → Prop), (∀ i, es[i]? = ds[k + i]?) → k + es.length = ds.length → I k ys ρ → (∀ zs ρ', I ds.length (ys ++ zs) ρ' → P' zs ρ') → WO E P' (lcL vs g t f es ρ) := by
    intro es
    induction es with
    | nil =>
      intro k ys ρ P' _ hl hI hP
      have : k = ds.length := by simpa using hl
      subst this
      exact hP [] ρ (by simpa using hI)
    | cons d es ih =>
      intro k ys ρ P' hd hl hI hP
      have h1 : ds[k]? = some d := by
        have := hd 0
        simpa using this.symm
      have h2 := hs k d ys ρ h1 hI
      have hd' : ∀ i, es[i]? = ds[(k + 1) + i]? := fun i => by
        have := hd (i + 1)
        rw [List.getElem?_cons_succ] at this
        rw [this]
        congr 1
        omega
      have hl' : (k + 1) + es.length = ds.length := by simp at hl; omega
      unfold lcL
      cases hg : g d ρ with
      | none => rw [hg] at h2; exact h2.elim
      | some ρ1 =>
        rw [hg] at h2
        dsimp only [so_some] at h2 ⊢
        cases ht : t ρ1 with
        | st => rw [ht] at h2; exact h2.elim
        | ex e ρ2 => rw [ht] at h2; exact h2.elim
        | ok b ρ2 =>
          rw [ht] at h2
          dsimp only [wo_ok] at h2
          cases b with
          | false =>
            rw [if_neg (by decide)] at h2
            exact ih (k + 1) ys _ P' hd' hl' h2 hP
          | true =>
            rw [if_pos rfl] at h2
            dsimp only
            cases hf : f ρ2 with
            | st => rw [hf] at h2; exact h2.elim
            | ex e ρ3 => rw [hf] at h2; exact h2.elim
            | ok y ρ3 =>
              rw [hf] at h2
              dsimp only
              have h3 := ih (k + 1) (ys ++ [y]) (wipeE ρ3 vs) (fun zs ρ' => P' (y :: zs) ρ') hd' hl' h2 (fun zs ρ' hz => hP (y :: zs) ρ' (by simpa using hz))
              cases hr : lcL vs g t f es (wipeE ρ3 vs) with
              | st => rw [hr] at h3; exact h3.elim
              | ex e ρ4 => rw [hr] at h3; exact absurd hr (lcL_noex e ρ4)
              | ok zs ρ4 => rw [hr] at h3; exact h3
  exact key ds 0 [] ρ P (fun i => by rw [Nat.zero_add]) (by omega) h0 (fun zs ρ' hz => he zs ρ' (by simpa using hz))
end DL
namespace DC
open PySem L2 DL
def Tr (n : Nat) (T : Tb) : Prop := ∀ a b c, a < n → b < n → c < n → T a b = true → T b c = true → T a c = true
theorem frz_ordT {n : Nat} {T : Tb} : frz (ordT n T) = ordT n T := frz_isF _ isF_ordT
end DC
namespace DC
open PySem L2 DL
@[simp] theorem o_listT {o : Bool} {xs : List D} {P : D → Prop} : SO (gList (.n .tup o xs)) P = P (.lst true xs) := rfl
def fstD : D → Nat
  | .n _ _ (d :: _) => natOf d
  | _ => 0
def sndD : D → Nat
  | .n _ _ (_ :: d :: _) => natOf d
  | _ => 0
@[simp] theorem fstD_pr {p : Nat × Nat} : fstD (prD p) = p.1 := rfl
@[simp] theorem sndD_pr {p : Nat × Nat} : sndD (prD p) = p.2 := rfl
theorem band_nat (a b : Nat) : Builtin.bitAnd (a : Int) (b : Int) = ((a &&& b : Nat) : Int) := PySem.W.os_band a b
end DC
namespace DL
open PySem L2
section
variable {Q : Ps} {ρ : DL.Env} {i j : Nat} {g : DL.Env → Out (List Ag)}
def as2 (ds : List Ag) (P : D → D → Prop) : Prop := match ds with
  | [.d a, .d b] => P a b
  | _ => False
@[simp] theorem as2_two {a b : D} {P : D → D → Prop} : as2 [.d a, .d b] P = P a b := rfl
@[simp] theorem p_Par : WP Q (dPar i j g ρ) = WO Q.ex (fun ds ρ1 => as2 ds fun a b => (i < ρ1.length ∧ j < ρ1.length) ∧ Q.nx ((ρ1.set i (some a)).set j (some b))) (g ρ) := by
  unfold dPar
  cases g ρ with
  | st => rfl
  | ex e ρ1 => rfl
  | ok ds ρ1 =>
    dsimp only [wo_ok]
    match ds with
    | [] => rfl
    | [.s _] => rfl
    | [.d _] => rfl
    | [.s _, .s _] => rfl
    | [.s _, .d _] => rfl
    | [.d _, .s _] => rfl
    | [.d a, .d b] =>
      dsimp only [as2]
      split
      · rename_i h; simp [h]
      · rename_i h; simp only [h, false_and]; rfl
    | _ :: _ :: _ :: _ =>
      rename_i a b c d
      cases a <;> cases b <;> rfl
end
theorem wp_forK {Q : Ps} {ρ : DL.Env} {f : DL.Env → Fl} {g : D → DL.Env → Option DL.Env} {ds : List D} (I : Nat → DL.Env → Prop) (h0 : I 0 ρ)
    (hs : ∀ i d ρ, ds[i]? = some d → I i ρ → ∀ J : DL.Env → Prop, (∀ ρ', I (i + 1) ρ' → J ρ') → SO (g d ρ) fun ρ1 => WP ⟨J, Q.rt, Q.nx, J, Q.ex⟩ (f ρ1)) (he : ∀ ρ, I ds.length ρ → Q.nx ρ) : WP Q (forL g f ds ρ) :=
  wp_for I h0 (fun i d ρ hd h => hs i d ρ hd h _ fun _ h => h) he
theorem wo_lcK {E : Exn → DL.Env → Prop} {P : List D → DL.Env → Prop} {vs : List Nat} {g : D → DL.Env → Option DL.Env} {t : DL.Env → Out Bool} {f : DL.Env → Out D} {ds : List D} {ρ : DL.Env} (I : Nat → List D → DL.Env → Prop) (h0 : I 0 [] ρ)
    (hs : ∀ i d ys ρ, ds[i]? = some d → I i ys ρ → ∀ J : List D → DL.Env → Prop, (∀ ys' ρ', I (i + 1) ys' ρ' → J ys' ρ') → SO (g d ρ) fun ρ1 => WO NoE (fun b ρ2 => if b = true then WO NoE (fun y ρ3 => J (ys ++ [y]) (wipeE ρ3 vs)) (f ρ2) else J ys (wipeE ρ2 vs)) (t ρ1))
    (he : ∀ ys ρ, I ds.length ys ρ → P ys ρ) : WO E P (lcL vs g t f ds ρ) :=
  wo_lcL I h0 (fun i d ys ρ hd h => hs i d ys ρ hd h _ fun _ _ h => h) he
end DL
namespace DC
open PySem L2 DL
theorem catL {o o' : Bool} {xs ys : List D} {P : D → Prop} (h1 : isFL xs = true) (h2 : isFL ys = true) (hl : xs.length + ys.length ≤ 1000000) : SO (gAdd (.n .lst o xs) (.n .lst o' ys)) P = P (.lst true (xs ++ ys)) := by
  unfold gAdd gOr gAddI gII gCatL
  simp [hl, h1, h2]
theorem catT {o o' : Bool} {xs ys : List D} {P : D → Prop} (h1 : isFL xs = true) (h2 : isFL ys = true) (hl : xs.length + ys.length ≤ 1000000) : SO (gAdd (.n .tup o xs) (.n .tup o' ys)) P = P (.tup (xs ++ ys)) := by
  unfold gAdd gOr gAddI gII gCatL gCatT
  simp [hl, h1, h2]
end DC
namespace DL
open PySem L2
@[simp] theorem p_Ext {Q : Ps} {ρ : DL.Env} {i : Nat} {o : Bool} {ys : List D} : WP Q (stExt i (.n .lst o ys) ρ) = SO (ρ[i]?) (fun o => SO o fun x => asL x fun xs => (xs.length + ys.length ≤ cap ∧ isFL ys = true) ∧ Q.nx (ρ.set i (some (.lst true (xs ++ ys))))) := by
  unfold stExt
  split
  · rename_i xs h
    rw [h]
    dsimp only [so_some, asL_lst]
    split
    · rename_i h; simp [h]
    · rename_i h; simp only [h, false_and]; rfl
  · rename_i h
    cases e : ρ[i]? with
    | none => rfl
    | some o =>
      cases o with
      | none => rfl
      | some d =>
        dsimp only [so_some]
        rw [asL_cases fun xs z => h xs (by rw [e, z])]
        rfl
end DL
namespace DC
open PySem L2 DL
def stt (s : Nat → Nat) : Nat → Nat
  | 0 => 0
  | x + 1 => stt s x + s x
open Classical in
noncomputable def lexT (m : Nat) (s : Nat → Nat) (A : Tb) (B : Nat → Tb) : Tb := fun p q => decide (∃ x i y k, x < m ∧ i < s x ∧ y < m ∧ k < s y ∧ p = stt s x + i ∧ q = stt s y + k ∧ (A x y = true ∨ (x = y ∧ B x i k = true)))
def blk (s : Nat → Nat) (p : Nat × Nat) : List (Nat × Nat) := (List.range (s p.1)).flatMap fun i => (List.range (s p.2)).map fun k => (stt s p.1 + i, stt s p.2 + k)
end DC
namespace DL
open PySem L2
end DL
namespace DC
open PySem L2 DL
def rowD (ps : List (Nat × Nat)) : D := .n .lst false (ps.map DC.prD)
@[simp] theorem isF_rowD {ps : List (Nat × Nat)} : isF (rowD ps) = true := by unfold rowD; simp
@[simp] theorem frz_rowD {ps : List (Nat × Nat)} : frz (rowD ps) = rowD ps := frz_isF _ isF_rowD
def tabD (n : Nat) (T : Tb) : D := .n .lst false (vec n (brow false n T))
@[simp] theorem isF_tabD {n : Nat} {T : Tb} : isF (tabD n T) = true := by unfold tabD; simp [isFL_brow]
@[simp] theorem frz_tabD {n : Nat} {T : Tb} : frz (tabD n T) = tabD n T := frz_isF _ isF_tabD
@[simp] theorem isF_brow' {n a : Nat} {T : Tb} : isF (brow false n T a) = true := by
  unfold brow; rw [isF_n, isFL_vec fun _ _ => rfl]; rfl
end DC
namespace DC
open PySem L2 DL
end DC
namespace DL
open PySem L2
theorem wp_while {Q : Ps} {t : DL.Env → Out Bool} {b : DL.Env → Fl} (I : Nat → DL.Env → Prop) (hs : ∀ n ρ, I n ρ → WO Q.ex (fun c ρ1 => if c = true then WP ⟨fun ρ2 => ∃ k, k < n ∧ I k ρ2, Q.rt, Q.nx, fun ρ2 => ∃ k, k < n ∧ I k ρ2, Q.ex⟩ (b ρ1) else Q.nx ρ1) (t ρ)) : ∀ (m n : Nat) (ρ : DL.Env), n < m → I n ρ → WP Q (whL t b m ρ)
  | 0, n, ρ, hm, _ => absurd hm (Nat.not_lt_zero _)
  | m + 1, n, ρ, hm, h => by
    have h1 := hs n ρ h
    have nxt : ∀ ρ2, (∃ k, k < n ∧ I k ρ2) → WP Q (whL t b m ρ2) := fun ρ2 ⟨k, hk, h2⟩ => wp_while I hs m k ρ2 (by omega) h2
    unfold whL
    cases ht : t ρ with
    | st => rw [ht] at h1; exact h1.elim
    | ex e ρ1 => rw [ht] at h1; exact h1
    | ok c ρ1 =>
      rw [ht, wo_ok] at h1
      cases c with
      | false => rw [if_neg (by decide)] at h1; exact h1
      | true =>
        rw [if_pos rfl] at h1
        dsimp only
        cases hb : b ρ1 with
        | nx ρ2 => rw [hb] at h1; exact nxt ρ2 h1
        | ct ρ2 => rw [hb] at h1; exact nxt ρ2 h1
        | bk ρ2 => rw [hb] at h1; exact h1
        | rt d ρ2 => rw [hb] at h1; exact h1
        | ex e ρ2 => rw [hb] at h1; exact h1
        | st => rw [hb] at h1; exact h1
end DL
namespace DC
open PySem L2 DL
end DC
namespace DC
open PySem L2 DL
def up1 (c : Nat) : List Nat := (List.range c).map (· + 1)
def dv (k : Nat) : List Nat := (up1 k).filter fun d => decide (k % d = 0)
def dg (k i : Nat) : Nat := (dv k).getD i 0
end DC
namespace DC
open PySem L2 DL
theorem o_min2 {i j : Int} {P : D → Prop} : SO (gMin2 (.a (.int i)) (.a (.int j))) P = P (.a (.int (if j < i then j else i))) := rfl
theorem pow18 : gPow (.a (.int 10)) (.a (.int 18)) = some (.a (.int 1000000000000000000)) := by kernel_rfl
theorem scr_ix {ns : List Int} {k : Nat} {z : Int} {P : D → Prop} (h : ns[k]? = some z) : SO (gIx (.n .scr false (ns.map D.int)) (.a (.int (k : Int)))) P = P (.a (.int z)) := by
  unfold gIx gIxO
  dsimp only
  rw [atI_nat (x := D.int z) (by rw [List.getElem?_map, h]; rfl)]
  rfl
theorem len_scr {o : Bool} {xs : List D} {P : D → Prop} : SO (gLen (.n .scr o xs)) P = P (.a (.int xs.length)) := rfl
theorem numbers_wf (ns : List Int) (hl : ns.length ≤ 63) (hb : ∀ z ∈ ns, Builtin.Int.intBits z ≤ 1048576) : WF NoE (fun d io => Nms d ∧ io = none) (F_law_numbers [.scr (ns.map D.int)]) := by
  unfold F_law_numbers
  rw [wf_fn]
  unfold B_law_numbers
  have hf : isFL (ns.map D.int) = true := isFL_map fun _ => rfl
  have hS : D.scr (ns.map D.int) = .n .scr false (ns.map D.int) := rfl
  have hix := fun {k z} h P => @scr_ix ns k z P h
  rw [hS]
  generalize hd0 : D.n .scr false (ns.map D.int) = d0 at *
  have hf0 : isF d0 = true := by rw [← hd0]; simp [hf]
  have hlen : ∀ P : D → Prop, SO (gLen d0) P = P (.a (.int (ns.length : Nat))) := fun P => by rw [← hd0, len_scr]; simp
  refine wp_step fun K hK => ?_
  simp
  apply hK
  clear hK K
  have c63 : ¬ (63 : Int) < ns.length := by omega
  refine wp_cutK (fun ρ => ∃ (l : List Nat) (v2 v3 v4 v5 v6 : Option D), ρ = [some d0, some (.lst true (l.map natD)), v2, v3, v4, v5, v6] ∧ (∀ x ∈ l, x < 1009) ∧ l.length ≤ 10000) (fun K hK => ?_) ?_
  · simp [hf0, hlen, o_min2, c63]
    refine ⟨by omega, ?_⟩
    refine wp_forK (fun i ρ => ∃ (l : List Nat) (v2 v3 v4 v5 v6 : Option D), ρ = [some d0, some (.lst true (l.map natD)), v2, v3, v4, v5, v6] ∧ (∀ x ∈ l, x < 1009) ∧ l.length ≤ 60 * i) ⟨[], none, none, none, none, none, rfl, fun x hx => by simp at hx, by simp⟩ ?_ ?_
    · intro i d ρ hd h J hJ
      obtain ⟨l, v2, v3, v4, v5, v6, hρ, hx, hll⟩ := h
      subst hρ
      obtain ⟨rfl, hi⟩ := intL_get hd
      rw [show (0 : Int) + (i : Int) = i by omega]
      obtain ⟨z, hz⟩ : ∃ z, ns[i]? = some z := ⟨_, List.getElem?_eq_getElem hi⟩
      have bz := hb z (List.mem_of_getElem? hz)
      rw [s_tg1]
      refine ⟨by simp, ?_⟩
      refine wp_step fun K hK => ?_
      simp [hf0, hix hz]
      apply hK
      clear hK K
      have babs : 0 ≤ (if z < 0 then -z else z) := by split <;> omega
      generalize (if z < 0 then -z else z) = c at *
      simp [pow18]
      split
      · rename_i hc
        refine wp_forK (fun j ρ => ∃ (l : List Nat) (c : Int) (v4 : Option D), ρ = [some d0, some (.lst true (l.map natD)), some (.a (.int (i : Int))), some (.a (.int c)), v4, v5, v6] ∧ 0 ≤ c ∧ (∀ x ∈ l, x < 1009) ∧ l.length ≤ 60 * i + j) ⟨l, c, v4, rfl, babs, hx, by omega⟩ ?_ ?_
        · intro j d ρ hd h J2 hJ2
          obtain ⟨l, c, v4, hρ, h0, hx, hll⟩ := h
          subst hρ
          have hj : j < 60 := by
            have := (List.getElem?_eq_some_iff.mp hd).1
            rwa [intL_len] at this
          simp
          split
          · rename_i hc
            have hm0 := Int.emod_nonneg c (show (1009 : Int) ≠ 0 by decide)
            have hm1 := Int.emod_lt_of_pos c (show (0 : Int) < 1009 by decide)
            obtain ⟨w, hw⟩ := Int.eq_ofNat_of_zero_le hm0
            rw [hw]
            refine ⟨by omega, divOk_small (by decide) (by decide), ?_⟩
            refine hJ2 _ ⟨l ++ [w], c / 1009, some d, by simp [natD], Int.ediv_nonneg h0 (by decide), ?_, by simp; omega⟩
            intro x hx'
            rcases List.mem_append.mp hx' with q | q
            · exact hx x q
            · simp at q; subst q; omega
          · exact hJ2 _ ⟨l, c, some d, rfl, h0, hx, by omega⟩
        · intro ρ h
          obtain ⟨l, c, v4, hρ, h0, hx, hll⟩ := h
          subst hρ
          rw [intL_len] at hll
          exact hJ _ ⟨l, _, _, _, _, _, rfl, hx, by omega⟩
      · rename_i hc
        refine wp_forK (fun j ρ => ∃ (l : List Nat) (c : Int) (v5 v6 : Option D), ρ = [some d0, some (.lst true (l.map natD)), some (.a (.int (i : Int))), some (.a (.int c)), v4, v5, v6] ∧ 0 ≤ c ∧ c < 1000000000000000000 ∧ (∀ x ∈ l, x < 1009) ∧ l.length ≤ 60 * i + j) ⟨l, c, v5, v6, rfl, babs, by omega, hx, by omega⟩ ?_ ?_
        · intro j d ρ hd h J2 hJ2
          obtain ⟨l, c, v5, v6, hρ, h0, h1, hx, hll⟩ := h
          subst hρ
          obtain ⟨rfl, hj⟩ := intL_get hd
          rw [show (0 : Int) + (j : Int) = j by omega]
          have k1 : mulOk c 48271 = true := mulOk_of (bits_c (n := 60) (by omega)) (bits_c (n := 16) (by decide)) (by decide)
          have k2 : mulOk 69621 ((j : Int) + i) = true := mulOk_of (bits_c (n := 17) (by decide)) (bits_c (n := 10) (by omega)) (by decide)
          have m0 := Int.emod_nonneg (c * 48271 + 69621 * ((j : Int) + i) + 11) (show (2147483647 : Int) ≠ 0 by decide)
          have m1 := Int.emod_lt_of_pos (c * 48271 + 69621 * ((j : Int) + i) + 11) (show (0 : Int) < 2147483647 by decide)
          generalize hcc : (c * 48271 + 69621 * ((j : Int) + i) + 11) % 2147483647 = c2 at *
          have k3 : mulOk c2 16807 = true := mulOk_of (bits31 m0 m1) (bits_c (n := 15) (by decide)) (by decide)
          simp [k1, k2, hcc, k3]
          have hm0 := Int.emod_nonneg ((c2 * 16807 + c2 / 65536) % 2147483629) (show (1009 : Int) ≠ 0 by decide)
          have hm1 := Int.emod_lt_of_pos ((c2 * 16807 + c2 / 65536) % 2147483629) (show (0 : Int) < 1009 by decide)
          generalize hcm : (c2 * 16807 + c2 / 65536) % 2147483629 = cm at *
          obtain ⟨w, hw⟩ := Int.eq_ofNat_of_zero_le hm0
          rw [hw]
          refine ⟨divOk_small (by decide) (by decide), by omega, ?_⟩
          refine hJ2 _ ⟨l ++ [w], c2, some (.a (.int (j : Int))), some (.a (.int cm)), by simp [natD], m0, by omega, ?_, by simp; omega⟩
          intro x hx'
          rcases List.mem_append.mp hx' with q | q
          · exact hx x q
          · simp at q; subst q; omega
        · intro ρ h
          obtain ⟨l, c, v5, v6, hρ, h0, h1, hx, hll⟩ := h
          subst hρ
          rw [intL_len] at hll
          exact hJ _ ⟨l, _, _, _, _, _, rfl, hx, by omega⟩
    · intro ρ h
      obtain ⟨l, v2, v3, v4, v5, v6, hρ, hx, hll⟩ := h
      subst hρ
      rw [intL_len] at hll
      exact hK _ ⟨l, _, _, _, _, _, rfl, hx, by omega⟩
  · intro ρ h
    obtain ⟨l, v2, v3, v4, v5, v6, hρ, hx, hll⟩ := h
    subst hρ
    simp [ioOf]
    exact ⟨l, rfl, hx, hll⟩
end DC
namespace DC
open PySem L2 DL
def tupN (l : List Nat) : D := .n .tup false (l.map natD)
@[simp] theorem isF_tupN {l : List Nat} : isF (tupN l) = true := by unfold tupN; simp
@[simp] theorem frz_tupN {l : List Nat} : frz (tupN l) = tupN l := frz_isF _ isF_tupN
def ascN (n : Nat) : Nat → List Nat → Bool
  | _, [] => true
  | lo, x :: l => decide (lo ≤ x) && (decide (x < n) && ascN n (x + 1) l)
end DC
namespace DC
open PySem L2 DL
def cov (n : Nat) (Ps : List (List Nat)) : Bool := (Ps.all fun p => ascN n 0 p && !p.isEmpty) && decide (sortI (Ps.flatten.map fun (d : Nat) => (d : Int)) = (List.range n).map fun (d : Nat) => (d : Int))
def parD (Ps : List (List Nat)) : D := .n .tup false (Ps.map tupN)
@[simp] theorem isF_parD {Ps : List (List Nat)} : isF (parD Ps) = true := by
  unfold parD
  rw [isF_n, isFL_map fun _ => isF_tupN]
  rfl
@[simp] theorem frz_parD {Ps : List (List Nat)} : frz (parD Ps) = parD Ps := frz_isF _ isF_parD
def natsOf : D → List Nat
  | .n _ _ xs => xs.map natOf
  | _ => []
@[simp] theorem natsOf_tupN {l : List Nat} : natsOf (tupN l) = l := by
  show (l.map natD).map natOf = l
  rw [List.map_map]
  exact List.map_id' l
end DC
namespace DC
open PySem L2 DL
end DC
namespace DC
open PySem L2 DL
end DC
namespace DC
open PySem L2 DL
abbrev Fi : Type := Nat → Nat → Int
def Sup (n : Nat) (T : Tb) (f : Fi) : Prop := ∀ x y, x < n → y < n → f x y ≠ 0 → x = y ∨ T x y = true
end DC
namespace DC
open PySem L2 DL
def oneF : Fi := fun x y => if x = y then 1 else 0
end DC
namespace DC
open PySem L2 DL
theorem src_rng {ρ : DL.Env} {f : DL.Env → Out D} {n : Nat} (h : f ρ = .ok (.a (.int (n : Int))) ρ) (hn : n ≤ 1000) : dRng1 f ρ = .ok (vec n fun i => .a (.int (i : Int))) ρ := by
  apply out_eq
  rw [w_Rng1, h]
  simp [intL_vec]
  omega
theorem var_eq {ρ : DL.Env} {i : Nat} {d : D} (h : ρ[i]? = some (some d)) (hf : isF d = true) : dVar i ρ = .ok d ρ := by
  apply out_eq
  simp [h, hf]
end DC
namespace DC
open PySem L2 DL
structure RowOk (n : Nat) (T : Tb) (x : Nat) (r : Nat → Int) : Prop where
  bd : ∀ y, y < n → (r y).natAbs ≤ 2
  su : ∀ y, y < n → r y ≠ 0 → x = y ∨ T x y = true
  dg : x < n → r x = 1 ∨ r x = -1
theorem sum_succ {g : Nat → Int} {i : Nat} : ((List.range (i + 1)).map g).sum = ((List.range i).map g).sum + g i := by
  rw [List.range_succ, List.map_append, List.sum_append]
  simp
end DC
namespace DC
open PySem L2 DL
theorem anyEq_int {z : Int} : ∀ {l : List Int}, anyEq (.a (.int z)) (l.map D.int) = decide (z ∈ l)
  | [] => by simp [anyEq]
  | y :: l => by
    rw [List.map_cons]
    unfold anyEq
    rw [anyEq_int (l := l)]
    have : eqD (.a (.int y)) (.a (.int z)) = decide (y = z) := by
      show eqA (.int y) (.int z) = _
      simp [eqA]
      rw [Bool.eq_iff_iff]; simp
    rw [this]
    by_cases e : y = z
    · simp [e]
    · have e2 : ¬ z = y := fun h => e h.symm
      simp [e, e2]
theorem pDL_int {m : Nat} : ∀ {l : List Int}, pDL m (l.map D.int) = true
  | [] => rfl
  | y :: l => by
    show (pD m (.a (.int y)) && pDL m (l.map D.int)) = true
    rw [pDL_int (l := l)]
    rfl
theorem gInB_ints {k : Kd} (hk : k = .lst ∨ k = .tup) {z : Int} {o : Bool} {l : List Int} : gInB (.a (.int z)) (.n k o (l.map D.int)) = some (decide (z ∈ l)) := by
  rcases hk with rfl | rfl
  · show (if pD 60 (.a (.int z)) = true ∧ pDL 60 (l.map D.int) = true then some (anyEq (.a (.int z)) (l.map D.int)) else none) = _
    rw [pDL_int, anyEq_int]
    rfl
  · have : (l.map D.int).all isA = true := by simp [List.all_map, isA]
    unfold gInB
    dsimp only
    rw [if_pos ⟨rfl, this⟩, anyEq_int]
theorem o_inI {k : Kd} (hk : k = .lst ∨ k = .tup) {z : Int} {o : Bool} {l : List Int} {P : D → Prop} : SO (gIn (.a (.int z)) (.n k o (l.map D.int))) P = P (.a (.bl (decide (z ∈ l)))) := by
  unfold gIn
  rw [gInB_ints hk]
  rfl
theorem o_notinI {k : Kd} (hk : k = .lst ∨ k = .tup) {z : Int} {o : Bool} {l : List Int} {P : D → Prop} : SO (gNotIn (.a (.int z)) (.n k o (l.map D.int))) P = P (.a (.bl (!decide (z ∈ l)))) := by
  unfold gNotIn
  rw [gInB_ints hk]
  rfl
theorem natD_int (l : List Nat) : l.map natD = (l.map fun (n : Nat) => (n : Int)).map D.int := by
  rw [List.map_map]; rfl
theorem mem_nat {z : Nat} {l : List Nat} : ((z : Int) ∈ l.map fun (n : Nat) => (n : Int)) ↔ z ∈ l := by
  rw [List.mem_map]
  constructor
  · rintro ⟨a, ha, e⟩
    have : a = z := by omega
    subst this; exact ha
  · intro h; exact ⟨z, h, rfl⟩
theorem o_inN {k : Kd} (hk : k = .lst ∨ k = .tup) {z : Nat} {o : Bool} {l : List Nat} {P : D → Prop} : SO (gIn (.a (.int (z : Int))) (.n k o (l.map natD))) P = P (.a (.bl (decide (z ∈ l)))) := by
  rw [natD_int, o_inI hk]
  rw [decide_eq_decide.mpr mem_nat]
theorem o_notinN {k : Kd} (hk : k = .lst ∨ k = .tup) {z : Nat} {o : Bool} {l : List Nat} {P : D → Prop} : SO (gNotIn (.a (.int (z : Int))) (.n k o (l.map natD))) P = P (.a (.bl (!decide (z ∈ l)))) := by
  rw [natD_int, o_notinI hk]
  rw [decide_eq_decide.mpr mem_nat]
structure UpL (n : Nat) (T : Tb) (x : Nat) (l : List Nat) : Prop where
  nd : l.Nodup
  hd : l[0]? = some x
  up : ∀ y ∈ l, y = x ∨ (y < n ∧ T x y = true)
  bh : ∀ (i y : Nat), l[i]? = some y → ∀ z, z < n → T z y = true → T x z = true → z ∈ l.take i
end DC
namespace DC
open PySem L2 DL
def Sm (n : Nat) (f : Nat → Int) : Int := ((List.range n).map f).sum
theorem Sm_zero {f : Nat → Int} : Sm 0 f = 0 := rfl
theorem Sm_succ {n : Nat} {f : Nat → Int} : Sm (n + 1) f = Sm n f + f n := sum_succ
theorem Sm_congr {n : Nat} {f g : Nat → Int} (h : ∀ i, i < n → f i = g i) : Sm n f = Sm n g := by
  unfold Sm
  congr 1
  exact List.map_congr_left fun i hi => h i (List.mem_range.mp hi)
theorem Sm_zeros {n : Nat} {f : Nat → Int} (h : ∀ i, i < n → f i = 0) : Sm n f = 0 := by
  rw [Sm_congr (g := fun _ => 0) h]
  induction n with
  | zero => rfl
  | succ n ih => rw [Sm_succ, ih fun i hi => h i (by omega)]; rfl
theorem Sm_pick {n c : Nat} {f : Nat → Int} (hc : c < n) (h : ∀ i, i < n → i ≠ c → f i = 0) : Sm n f = f c := by
  induction n with
  | zero => omega
  | succ n ih =>
    rw [Sm_succ]
    by_cases e : c = n
    · subst e
      rw [Sm_zeros fun i hi => h i (by omega) (by omega)]
      omega
    · rw [ih (by omega) fun i hi => h i (by omega), h n (by omega) (Ne.symm e)]
      omega
theorem Sm_le {f g : Nat → Int} : ∀ {n : Nat}, (∀ i, i < n → f i ≤ g i) → Sm n f ≤ Sm n g
  | 0, _ => by simp [Sm_zero]
  | n + 1, h => by
    rw [Sm_succ, Sm_succ]
    have := Sm_le (n := n) fun i hi => h i (by omega)
    have := h n (by omega)
    omega
theorem Sm_one {f : Nat → Int} {n c : Nat} (hc : c < n) (h : ∀ i, i < n → 0 ≤ f i) : f c ≤ Sm n f := by
  have := Sm_le (n := n) (f := fun i => if i = c then f c else 0) (g := f) fun i hi => by
    by_cases e : i = c
    · subst e; simp
    · simp [e]; exact h i hi
  rw [Sm_pick hc (fun i _ hne => by simp [hne])] at this
  simpa using this
theorem filter_lt {p q : Nat → Bool} : ∀ {l : List Nat}, (∀ z ∈ l, p z = true → q z = true) → (∃ z ∈ l, q z = true ∧ p z = false) → (l.filter p).length < (l.filter q).length
  | [], _, ⟨z, hz, _⟩ => by cases hz
  | a :: l, h, ⟨z, hz, h1, h2⟩ => by
    have hsub : ∀ {l : List Nat}, (∀ z ∈ l, p z = true → q z = true) → (l.filter p).length ≤ (l.filter q).length := fun {l} h => by
      induction l with
      | nil => simp
      | cons b l ih =>
        have i1 := ih fun z hz => h z (by simp [hz])
        have i2 := h b (by simp)
        cases hp : p b with
        | true => simp [hp, i2 hp]; exact i1
        | false =>
          cases hq : q b <;> simp [hp, hq] <;> omega
    rcases List.mem_cons.mp hz with rfl | hz
    · have := hsub fun z hz => h z (List.mem_cons_of_mem _ hz)
      simp [h1, h2]
      omega
    · have ih := filter_lt (fun z hz => h z (List.mem_cons_of_mem _ hz)) ⟨z, hz, h1, h2⟩
      have i2 := h a (by simp)
      cases hp : p a with
      | true => simp [hp, i2 hp]; exact ih
      | false =>
        cases hq : q a <;> simp [hp, hq] <;> omega
end DC
namespace DC
open PySem L2 DL
theorem intsOf_map {α : Type} {f : α → Int} : ∀ l : List α, intsOf (l.map fun x => D.a (.int (f x))) = some (l.map f)
  | [] => rfl
  | x :: l => by
    rw [List.map_cons, List.map_cons]
    unfold intsOf
    rw [intsOf_map l]
    rfl
def bnd3 (i : Nat) : Int := if i = 0 then 0 else ((3 ^ (i - 1) : Nat) : Int)
structure RowP (n : Nat) (T : Tb) (f : Fi) (x : Nat) (l : List Nat) (r : Nat → Int) : Prop where
  su : ∀ y, y < n → r y ≠ 0 → y ∈ l
  dg : l ≠ [] → r x = f x x
  eq : ∀ y ∈ l, Sm n (fun z => r z * f z y) = oneF x y
  bd : Sm n (fun z => ((r z).natAbs : Int)) ≤ bnd3 l.length
structure RowD (n : Nat) (T : Tb) (f : Fi) (x : Nat) (r : Nat → Int) : Prop where
  su : ∀ y, y < n → r y ≠ 0 → x = y ∨ T x y = true
  dg : r x = f x x
  eq : ∀ y, y < n → Sm n (fun z => r z * f z y) = oneF x y
  bd : ∀ y, y < n → (r y).natAbs < 1000000
theorem RowP.done {n x : Nat} {T : Tb} {f : Fi} {l : List Nat} {r : Nat → Int} (hn : n ≤ 10) (tT : Tr n T) (hx : x < n) (hs : Sup n T f) (hl : UpL n T x l) (hall : ∀ y, y < n → T x y = true → y ∈ l) (h : RowP n T f x l r) : RowD n T f x r where
  su := fun y hy h0 => (hl.up y (h.su y hy h0)).imp Eq.symm fun q => q.2
  dg := h.dg fun e => by have := hl.hd; rw [e] at this; cases this
  eq := fun y hy => by
    by_cases q : y ∈ l
    · exact h.eq y q
    · have hxl : x ∈ l := List.mem_of_getElem? hl.hd
      have hne : x ≠ y := fun e => q (e ▸ hxl)
      rw [Sm_zeros fun z hz => ?_]
      · simp [oneF, hne]
      · by_cases h1 : r z = 0
        · rw [h1]; simp
        · by_cases h2 : f z y = 0
          · rw [h2]; simp
          · exfalso
            apply q
            have hz1 := hl.up z (h.su z hz h1)
            have hz2 := hs z y hz hy h2
            rcases hz1 with e1 | e1
            · subst e1
              rcases hz2 with e2 | e2
              · exact absurd e2 hne
              · exact hall y hy e2
            · rcases hz2 with e2 | e2
              · subst e2; exact hall z hy e1.2
              · exact hall y hy (tT x z y hx hz hy e1.2 e2)
  bd := fun y hy => by
    have h1 := Sm_one (f := fun z => ((r z).natAbs : Int)) hy fun i _ => by omega
    have h2 := h.bd
    have hll : l.length ≤ n := by
      have hsub : ∀ w ∈ l, w ∈ List.range n := fun w hw => List.mem_range.mpr (by
        rcases hl.up w hw with e | e <;> omega)
      have := hl.nd.length_le_of_subset hsub
      simpa using this
    have h3 : bnd3 l.length ≤ 19683 := by
      unfold bnd3
      split
      · omega
      · have : 3 ^ (l.length - 1) ≤ 3 ^ 9 := Nat.pow_le_pow_right (by decide) (by omega)
        have e9 : (3 : Nat) ^ 9 = 19683 := by decide
        omega
    omega
theorem RowP.first {n x : Nat} {T : Tb} {f : Fi} {r r' : Nat → Int} (hx : x < n) (hd : f x x = 1 ∨ f x x = -1) (h : RowP n T f x [] r) (h1 : r' x = f x x) (h2 : ∀ z, z ≠ x → r' z = r z) : RowP n T f x [x] r' := by
  have r0 : ∀ z, z < n → z ≠ x → r' z = 0 := fun z hz hne => by
    rw [h2 z hne]
    false_or_by_contra
    rename_i q
    exact absurd (h.su z hz q) (by simp)
  refine ⟨fun y hy h0 => ?_, fun _ => h1, fun y hy => ?_, ?_⟩
  · by_cases e : y = x
    · simp [e]
    · exact absurd (r0 y hy e) h0
  · have : y = x := by simpa using hy
    subst this
    rw [Sm_pick hx fun z hz hne => by rw [r0 z hz hne]; simp, h1]
    simp [oneF]
    rcases hd with e | e <;> rw [e] <;> rfl
  · rw [Sm_pick hx fun z hz hne => by rw [r0 z hz hne]; simp, h1]
    rcases hd with e | e <;> rw [e] <;> simp [bnd3]
end DC
namespace DC
open PySem L2 DL
def cc (n : Nat) (T : Tb) : Nat → Nat → Nat → Nat → Int
  | 0, _, _, _ => 0
  | m + 1, x, y, k => if x = y then (if k = 1 then 1 else 0) else if k = 0 then 0 else Sm n fun z => if T x z = true ∧ (z = y ∨ T z y = true) then cc n T m z y (k - 1) else 0
end DC
namespace DC
open PySem L2 DL
end DC
namespace DC
open PySem L2 DL
def ky (x : Nat) : Key := .inl (x : Int)
theorem ky_inj {x y : Nat} : ky x = ky y ↔ x = y := by
  unfold ky
  constructor
  · intro h
    have : (x : Int) = y := by injection h
    omega
  · rintro rfl; rfl
theorem foldl_max : ∀ (l : List Int) (a : Int), a ≤ l.foldl max a ∧ (∀ y ∈ l, y ≤ l.foldl max a) ∧ (l.foldl max a = a ∨ l.foldl max a ∈ l)
  | [], a => ⟨Int.le_refl _, fun y hy => (by cases hy), .inl rfl⟩
  | x :: l, a => by
    rw [List.foldl_cons]
    obtain ⟨h1, h2, h3⟩ := foldl_max l (max a x)
    refine ⟨by omega, fun y hy => ?_, ?_⟩
    · rcases List.mem_cons.mp hy with rfl | hy
      · omega
      · exact h2 y hy
    · rcases h3 with e | e
      · rw [e]
        by_cases q : a ≤ x
        · exact .inr (by rw [Int.max_eq_right q]; simp)
        · exact .inl (Int.max_eq_left (by omega))
      · exact .inr (by simp [e])
theorem max1_eq {o : Bool} {a : Int} {l : List Int} {P : D → Prop} : SO (gMax1 (.n .lst o ((a :: l).map D.int))) P = P (.a (.int (l.foldl max a))) := by
  unfold gMax1
  dsimp only
  rw [intsOf_map (f := fun x : Int => x)]
  dsimp only
  rw [List.map_id', List.max?_cons']
  rfl
theorem w_lcN {E : Exn → DL.Env → Prop} {P : D → DL.Env → Prop} {ρ : DL.Env} {v : Nat} {l : List Nat} {src : DL.Env → Out (List D)} {f : DL.Env → Out D} (fv : Nat → D) (hv : ∀ d, ρ[v]? = some (some d) → isF d = true) (hl : v < ρ.length) (hsrc : src ρ = .ok (l.map natD) ρ) (hc : l.length ≤ 1000000)
    (hf : ∀ x ∈ l, f (ρ.set v (some (natD x))) = .ok (fv x) (ρ.set v (some (natD x)))) (k : P (.lst true (l.map fv)) ρ) : WO E P (dLc [v] src (tg1 v) dYes f ρ) := by
  rw [w_lcA (fun d => fv (natOf d)) hv hl hsrc (by rw [List.length_map]; exact hc)]
  · rw [List.map_map]
    exact k
  · intro d hd
    obtain ⟨x, hx, rfl⟩ := List.mem_map.mp hd
    exact hf x hx
theorem w_lcNF {E : Exn → DL.Env → Prop} {P : D → DL.Env → Prop} {ρ : DL.Env} {v : Nat} {l : List Nat} {src : DL.Env → Out (List D)} {t : DL.Env → Out Bool} {f : DL.Env → Out D} (tb : Nat → Bool) (fv : Nat → D) (hv : ∀ d, ρ[v]? = some (some d) → isF d = true) (hl : v < ρ.length) (hsrc : src ρ = .ok (l.map natD) ρ) (hc : l.length ≤ 1000000)
    (ht : ∀ x ∈ l, t (ρ.set v (some (natD x))) = .ok (tb x) (ρ.set v (some (natD x)))) (hf : ∀ x ∈ l, tb x = true → f (ρ.set v (some (natD x))) = .ok (fv x) (ρ.set v (some (natD x)))) (k : P (.lst true ((l.filter tb).map fv)) ρ) : WO E P (dLc [v] src (tg1 v) t f ρ) := by
  rw [w_lcF (fun d => tb (natOf d)) (fun d => fv (natOf d)) hv hl hsrc (by rw [List.length_map]; exact hc)]
  · rw [List.filter_map, List.map_map]
    exact k
  · intro d hd
    obtain ⟨x, hx, rfl⟩ := List.mem_map.mp hd
    exact ht x hx
  · intro d hd h
    obtain ⟨x, hx, rfl⟩ := List.mem_map.mp hd
    exact hf x hx h
theorem src_lst {ρ : DL.Env} {k : Kd} (hk : k = .lst ∨ k = .tup) {f : DL.Env → Out D} {l : List Nat} (h : f ρ = .ok (.n k false (l.map natD)) ρ) (hn : l.length ≤ 1000000) : dIter f ρ = .ok (l.map natD) ρ := by
  apply out_eq
  have hfl : isFL (l.map natD) = true := isFL_map fun _ => rfl
  rw [w_Iter, h]
  rcases hk with rfl | rfl <;> simp [hfl] <;> omega
theorem src_rngN {ρ : DL.Env} {f : DL.Env → Out D} {n : Nat} (h : f ρ = .ok (.a (.int (n : Int))) ρ) (hn : n ≤ 1000) : dRng1 f ρ = .ok ((List.range n).map natD) ρ := src_rng h hn
structure RankS (n : Nat) (T : Tb) (r : Nat → Nat) : Prop where
  lt : ∀ x z, x < n → z < n → T z x = true → r z < r x
  ex : ∀ x, x < n → r x = 0 ∨ ∃ z, z < n ∧ T z x = true ∧ r z + 1 = r x
structure RankD (n : Nat) (T : Tb) (dom : List Nat) (r : Nat → Nat) : Prop where
  nd : dom.Nodup
  bd : ∀ x ∈ dom, x < n
  lt : ∀ x ∈ dom, ∀ z, z < n → T z x = true → z ∈ dom ∧ r z < r x
  ex : ∀ x ∈ dom, r x = 0 ∨ ∃ z, z < n ∧ T z x = true ∧ r z + 1 = r x
theorem RankD.len {n : Nat} {T : Tb} {dom : List Nat} {r : Nat → Nat} (h : RankD n T dom r) : dom.length ≤ n := by
  have := h.nd.length_le_of_subset (l₂ := List.range n) fun x hx => List.mem_range.mpr (h.bd x hx)
  simpa using this
def downs (n : Nat) (T : Tb) (x : Nat) : Nat := ((List.range n).filter fun z => T z x).length
theorem downs_lt {n x y : Nat} {T : Tb} (tT : Tr n T) (iT : Irr n T) (hx : x < n) (hy : y < n) (h : T x y = true) : downs n T x < downs n T y :=
  filter_lt (p := fun z => T z x) (q := fun z => T z y) (fun z hz h2 => tT z x y (List.mem_range.mp hz) hx hy h2 h) ⟨x, List.mem_range.mpr hx, h, iT x hx⟩
theorem RankS.le {n : Nat} {T : Tb} {r : Nat → Nat} (tT : Tr n T) (iT : Irr n T) (h : RankS n T r) : ∀ (k x : Nat), x < n → downs n T x ≤ k → r x ≤ downs n T x := by
  intro k
  induction k with
  | zero =>
    intro x hx hk
    rcases h.ex x hx with e | ⟨z, hz, hT, e⟩
    · omega
    · have := downs_lt tT iT hz hx hT
      omega
  | succ k ih =>
    intro x hx hk
    rcases h.ex x hx with e | ⟨z, hz, hT, e⟩
    · omega
    · have h1 := downs_lt tT iT hz hx hT
      have h2 := ih z hz (by omega)
      omega
def height (n : Nat) (r : Nat → Nat) : Nat := (((List.range n).map fun x => (r x : Int)).foldl max (-1) + 1).toNat
theorem height_spec (n : Nat) (r : Nat → Nat) : (((List.range n).map fun x => (r x : Int)).foldl max (-1) + 1) = (height n r : Int) ∧ (∀ x, x < n → r x < height n r) ∧ (height n r = 0 ∨ ∃ x, x < n ∧ r x + 1 = height n r) := by
  obtain ⟨h1, h2, h3⟩ := foldl_max ((List.range n).map fun x => (r x : Int)) (-1)
  unfold height
  generalize ((List.range n).map fun x => (r x : Int)).foldl max (-1) = m at *
  refine ⟨by omega, fun x hx => ?_, ?_⟩
  · have := h2 (r x : Int) (List.mem_map.mpr ⟨x, List.mem_range.mpr hx, rfl⟩)
    omega
  · rcases h3 with e | e
    · left; omega
    · obtain ⟨x, hx, e⟩ := List.mem_map.mp e
      right
      exact ⟨x, List.mem_range.mp hx, by omega⟩
abbrev rkD (n : Nat) (r : Nat → Nat) : D := .n .tup false (vec n fun x => natD (r x))
section
variable {n : Nat} {T : Tb} {r : Nat → Nat}
theorem length_eq (hn : n ≤ 60) (hr : F_ranks [ordT n T] = .rt (rkD n r) none) : F_length [ordT n T] = .rt (.a (.int (height n r : Int))) none := by
  apply wf_eq
  unfold F_length
  rw [wf_fn]
  unfold B_length
  have hfl : isFL (vec n fun x => natD (r x)) = true := isFL_vec fun _ _ => rfl
  have gl : ∀ P : D → Prop, SO (gList (rkD n r)) P = P (.lst true (vec n fun x => natD (r x))) := fun P => by
    unfold gList rkD
    rfl
  have cat : ∀ P : D → Prop, SO (gAdd (.n .lst true [.a (.int (-1))]) (.lst true (vec n fun x => natD (r x)))) P = P (.lst true (((-1 : Int) :: (List.range n).map fun x => (r x : Int)).map D.int)) := fun P => by
    rw [catL rfl hfl (by simp; omega)]
    have : ([D.a (.int (-1))] ++ vec n fun x => natD (r x)) = ((-1 : Int) :: (List.range n).map fun x => (r x : Int)).map D.int := by
      unfold vec
      simp [natD]
    rw [this]
  have mx : ∀ (l : List Int) (P : D → Prop), SO (gMax1 (.lst true ((( -1 : Int) :: l).map D.int))) P = P (.a (.int (l.foldl max (-1)))) := fun l P => max1_eq
  rw [p_Bind, w_Op2, w_U, w_Op2]
  simp only [w_Lst, w_ACons, w_U, w_C, o_neg, w_ANil, wo_ok, agL_cons, agL_nil, Option.map_some, so_some]
  simp [isF_ordT, frz_ordT, hr, gl]
  rw [cat, mx]
  simp [(height_spec n r).1, ioOf]
end
end DC
namespace DC
open PySem L2 DL
structure Dsc (n : Nat) (T : Tb) (r : Nat → Nat) (h : Nat) (c : List Nat) : Prop where
  bd : ∀ x ∈ c, x < n
  rk : ∀ (s x : Nat), c[s]? = some x → r x + 1 + s = h
  ch : c.Pairwise fun a b => T b a = true
end DC
namespace DC
open PySem L2 DL
def ls {α : Type} (l : List α) (g : α → Int) : Int := (l.map g).sum
section
variable {n : Nat} {T : Tb} (tT : Tr n T) (iT : Irr n T)
include tT iT
end
end DC
namespace DC
open PySem L2 DL
theorem chain_eq3 {ρ : DL.Env} {fa fb fc : DL.Env → Out D} {i j k : Int} (ha : fa ρ = .ok (.a (.int i)) ρ) (hb : fb ρ = .ok (.a (.int j)) ρ) (hc : fc ρ = .ok (.a (.int k)) ρ) : dChain gLe gLt fa fb fc ρ = .ok (.a (.bl (decide (i ≤ j) && decide (j < k)))) ρ := by
  unfold dChain
  rw [ha]
  dsimp only
  rw [hb]
  dsimp only
  have h1 : gLe (.a (.int i)) (.a (.int j)) = some (.a (.bl (decide (i ≤ j)))) := rfl
  have h2 : gLt (.a (.int j)) (.a (.int k)) = some (.a (.bl (decide (j < k)))) := rfl
  rw [h1]
  cases decide (i ≤ j) with
  | false => rfl
  | true =>
    dsimp only
    rw [hc]
    dsimp only
    rw [h2]
    rfl
theorem isset_int {b : Int} {n : Nat} (hn : n ≤ 1000) : F_is_set [.a (.int b), .a (.int (n : Int))] = .rt (.a (.bl (decide (0 ≤ b) && decide (b < ((2 ^ n : Nat) : Int))))) none := by
  apply wf_eq
  unfold F_is_set
  rw [wf_fn]
  unfold B_is_set
  have hv : ∀ ρ : DL.Env, ρ = [some (.a (.int b)), some (.a (.int (n : Int)))] → dChain gLe gLt (dC (.int 0)) (dVar 0) (dOp2 gShl (dC (.int 1)) (dVar 1)) ρ = .ok (.a (.bl (decide (0 ≤ b) && decide (b < ((2 ^ n : Nat) : Int))))) ρ := by
    rintro _ rfl
    exact chain_eq3 rfl (var_eq rfl rfl) (out_eq (by simp [-Int.natCast_pow, o_shl1 (show n ≤ 1000000 by omega)]))
  generalize (decide (0 ≤ b) && decide (b < ((2 ^ n : Nat) : Int))) = q at *
  simp [isint_eq, hv, ioOf]
theorem isset_eq {b n : Nat} (hb : b < 2 ^ n) (hn : n ≤ 1000) : F_is_set [.a (.int (b : Int)), .a (.int (n : Int))] = .rt (.a (.bl true)) none := by
  rw [isset_int hn]
  have h1 : (b : Int) < ((2 ^ n : Nat) : Int) := Int.ofNat_lt.mpr hb
  have h2 : (0 : Int) ≤ (b : Int) := by omega
  rw [decide_eq_true h1, decide_eq_true h2]
  rfl
end DC
namespace DC
open PySem L2 DL
end DC
namespace DC
open PySem L2 DL
end DC
namespace DC
open PySem L2 DL
def fl (n : Nat) (T : Tb) (F : Nat) : List Nat := (List.range n).filter fun x => !F.testBit x && (List.range n).all fun z => !T z x || F.testBit z
theorem mem_fl {n F x : Nat} {T : Tb} : x ∈ fl n T F ↔ x < n ∧ F.testBit x = false ∧ ∀ z, z < n → T z x = true → F.testBit z = true := by
  unfold fl
  rw [List.mem_filter, List.mem_range, Bool.and_eq_true, List.all_eq_true]
  constructor
  · rintro ⟨h1, h2, h3⟩
    refine ⟨h1, by simpa using h2, fun z hz h => ?_⟩
    have := h3 z (List.mem_range.mpr hz)
    simpa [h] using this
  · rintro ⟨h1, h2, h3⟩
    refine ⟨h1, by simp [h2], fun z hz => ?_⟩
    cases h : T z x with
    | false => rfl
    | true => rw [h3 z (List.mem_range.mp hz) h]; rfl
def pt (F x : Nat) : Nat := F ||| 2 ^ x
theorem pt_bit {F x z : Nat} : (pt F x).testBit z = (F.testBit z || decide (x = z)) := by
  unfold pt
  rw [Nat.testBit_or, Nat.testBit_two_pow]
theorem pt_lt {n F x : Nat} (hF : F < 2 ^ n) (hx : x < n) : pt F x < 2 ^ n := Nat.or_lt_two_pow hF (Nat.pow_lt_pow_right (by decide) hx)
def bits (n F : Nat) : Nat := ((List.range n).filter F.testBit).length
theorem bits_pt {n F x : Nat} (hx : x < n) (h : F.testBit x = false) : bits n (pt F x) = bits n F + 1 := by
  unfold bits
  have hp : ((List.range n).filter (pt F x).testBit).Perm (x :: (List.range n).filter F.testBit) := by
    refine (List.perm_ext_iff_of_nodup (List.nodup_range.filter _) (List.nodup_cons.mpr ⟨fun q => ?_, List.nodup_range.filter _⟩)).mpr fun z => ?_
    · have := (List.mem_filter.mp q).2
      rw [h] at this; cases this
    · rw [List.mem_filter, List.mem_cons, List.mem_filter, List.mem_range, pt_bit]
      by_cases e : x = z
      · subst e; simp [hx]
      · have e' : ¬ z = x := fun q => e q.symm
        simp [e, e']
  rw [hp.length_eq, List.length_cons]
theorem bits_zero {n : Nat} : bits n 0 = 0 := by
  unfold bits
  rw [List.filter_eq_nil_iff.mpr fun x _ => by simp]
  rfl
inductive Lv (n : Nat) (T : Tb) : Nat → Nat → Prop
  | zero : Lv n T 0 0
  | step {t F x : Nat} : Lv n T t F → x ∈ fl n T F → Lv n T (t + 1) (pt F x)
theorem Lv.bits {n t F : Nat} {T : Tb} (h : Lv n T t F) : bits n F = t ∧ F < 2 ^ n := by
  induction h with
  | zero => exact ⟨bits_zero, Nat.two_pow_pos n⟩
  | step _ hx ih =>
    obtain ⟨h1, h2, _⟩ := mem_fl.mp hx
    exact ⟨by rw [bits_pt h1 h2, ih.1], pt_lt ih.2 h1⟩
end DC
namespace DC
open PySem L2 DL
end DC
namespace DC
open PySem L2 DL
def stp (n : Nat) (T : Tb) (F : Nat) : List Nat := (fl n T F).map (pt F)
theorem or_shl {F x : Nat} {P : D → Prop} (hx : x ≤ 60) : SO (gShl (.a (.int 1)) (.a (.int (x : Int)))) (fun d => SO (gOrB (.a (.int (F : Int))) d) P) = P (natD (pt F x)) := by
  rw [o_shl1 (show x ≤ 1000000 by omega)]
  show P (.a (.int (Builtin.bitOr (F : Int) ((2 ^ x : Nat) : Int)))) = _
  rw [bor_nat]
  rfl
theorem gor_eq {F x i j : Nat} {ρ : DL.Env} (hx : x ≤ 60) (h1 : ρ[i]? = some (some (natD F))) (h2 : ρ[j]? = some (some (natD x))) : dOp2 gOrB (dVar i) (dOp2 gShl (dC (.int 1)) (dVar j)) ρ = .ok (natD (pt F x)) ρ := by
  apply out_eq
  rw [w_Op2, var_eq h1 rfl, wo_ok, w_Op2, w_C, var_eq h2 rfl, wo_ok]
  exact Eq.mpr (or_shl (P := fun d => d = natD (pt F x) ∧ ρ = ρ) hx) ⟨rfl, rfl⟩
theorem wo_of {E : Exn → DL.Env → Prop} {P : D → DL.Env → Prop} {o : Out D} {x : D} {ρ : DL.Env} (h : o = .ok x ρ) (k : P x ρ) : WO E P o := by
  rw [h, wo_ok]
  exact k
end DC
namespace DC
open PySem L2 DL
def plc0 (n : Nat) (s : Nat → Nat) (m : Nat) : Nat := ((List.range n).find? fun x => decide (s x = m)).getD 0
def bndR (n : Nat) (s : Nat → Nat) (x y : Nat) : Int := if (s x &&& s y) ∈ (List.range n).map s then (plc0 n s (s x &&& s y) : Int) else -1
end DC
namespace DC
open PySem L2 DL
def upm (n : Nat) (T : Tb) (x : Nat) : Nat := mask n fun y => decide (x = y) || T x y
def dnm (n : Nat) (T : Tb) (y : Nat) : Nat := mask n fun x => decide (x = y) || T x y
def IsLat (n : Nat) (T : Tb) : Prop := 0 < n ∧ (∀ x, x < n → ∀ y, y < n → bndR n (upm n T) x y ≠ -1) ∧ ∀ x, x < n → ∀ y, y < n → bndR n (dnm n T) x y ≠ -1
end DC
namespace DC
open PySem L2 DL
end DC
namespace DC
open PySem L2 DL
def le (T : Tb) (x y : Nat) : Bool := decide (x = y) || T x y
theorem le_refl {T : Tb} {x : Nat} : le T x x = true := by simp [le]
theorem le_of {T : Tb} {x y : Nat} (h : T x y = true) : le T x y = true := by simp [le, h]
theorem le_iff {T : Tb} {x y : Nat} : le T x y = true ↔ x = y ∨ T x y = true := by simp [le]
theorem le_trans {n : Nat} {T : Tb} (tT : Tr n T) {a b c : Nat} (ha : a < n) (hb : b < n) (hc : c < n) (h1 : le T a b = true) (h2 : le T b c = true) : le T a c = true := by
  rcases le_iff.mp h1 with rfl | h1'
  · exact h2
  rcases le_iff.mp h2 with rfl | h2'
  · exact h1
  exact le_of (tT a b c ha hb hc h1' h2')
def jn (n : Nat) (T : Tb) (x y : Nat) : Nat := (bndR n (upm n T) x y).toNat
def mt (n : Nat) (T : Tb) (x y : Nat) : Nat := (bndR n (dnm n T) x y).toNat
end DC
namespace DC
open PySem L2 DL
end DC
namespace DC
open PySem L2 DL
end DC
namespace DC
open PySem L2 DL
end DC
namespace DC
open PySem L2 DL
theorem set_same {ρ : DL.Env} {i : Nat} {o : Option D} (h : ρ[i]? = some o) : ρ.set i o = ρ := by
  apply List.ext_getElem?
  intro m
  by_cases q : i = m
  · subst q; rw [get_set_self (List.getElem?_eq_some_iff.mp h).1, h]
  · rw [get_set_ne q]
end DC
namespace DC
open PySem L2 DL
theorem ag2 {fa fb : DL.Env → Out D} {ρ : DL.Env} {a b : D} (ha : fa ρ = .ok a ρ) (hb : fb ρ = .ok b ρ) : dACons fa (dACons fb dANil) ρ = .ok [.d a, .d b] ρ := by
  apply out_eq
  rw [w_ACons, ha, wo_ok, w_ACons, hb, wo_ok, w_ANil]
  exact ⟨rfl, rfl⟩
theorem eqN {f g : DL.Env → Out D} {ρ : DL.Env} {a b : Nat} (hf : f ρ = .ok (natD a) ρ) (hg : g ρ = .ok (natD b) ρ) : dB (dOp2 gEq f g) ρ = .ok (decide (a = b)) ρ := by
  apply out_eq
  rw [w_B, w_Op2, hf, wo_ok, hg, wo_ok]
  simp [natD]
  omega
theorem neN {f g : DL.Env → Out D} {ρ : DL.Env} {a b : Nat} (hf : f ρ = .ok (natD a) ρ) (hg : g ρ = .ok (natD b) ρ) : dB (dOp2 gNe f g) ρ = .ok (!decide (a = b)) ρ := by
  apply out_eq
  rw [w_B, w_Op2, hf, wo_ok, hg, wo_ok]
  simp [natD]
  by_cases e : a = b
  · simp [e]
  · have : ¬ (a : Int) = b := by omega
    simp [e, this]
theorem andE {f g : DL.Env → Out Bool} {ρ : DL.Env} {a b : Bool} (hf : f ρ = .ok a ρ) (hg : a = true → g ρ = .ok b ρ) : dAndT f g ρ = .ok (a && b) ρ := by
  apply out_eq
  rw [w_AndT, hf, wo_ok]
  cases a with
  | false => rw [if_neg (by decide)]; exact ⟨rfl, rfl⟩
  | true => rw [if_pos rfl, hg rfl, wo_ok]; exact ⟨by simp, rfl⟩
theorem orE {f g : DL.Env → Out Bool} {ρ : DL.Env} {a b : Bool} (hf : f ρ = .ok a ρ) (hg : a = false → g ρ = .ok b ρ) : dOrT f g ρ = .ok (a || b) ρ := by
  apply out_eq
  rw [w_OrT, hf, wo_ok]
  cases a with
  | false => rw [if_neg (by decide), hg rfl, wo_ok]; exact ⟨by simp, rfl⟩
  | true => rw [if_pos rfl]; exact ⟨rfl, rfl⟩
end DC
namespace DC
open PySem L2 DL
def itL (L : List Nat) (i : Nat) : Nat := L.getD i 0
structure Fam (L : List Nat) : Prop where
  nd : L.Nodup
  ne : L ≠ []
  lt : ∀ a ∈ L, a < 8
  cl : ∀ a ∈ L, ∀ b ∈ L, a &&& b ∈ L ∧ a ||| b ∈ L
theorem nodup_lt {n : Nat} : ∀ {l : List Nat}, l.Nodup → (∀ x ∈ l, x < n) → l.length ≤ n := by
  induction n with
  | zero =>
    intro l _ h
    cases l with
    | nil => exact Nat.le_refl _
    | cons x l => exact absurd (h x (by simp)) (Nat.not_lt_zero _)
  | succ n ih =>
    intro l nd h
    have h1 : (l.erase n).length ≤ n := ih (nd.erase n) fun x hx => by
      have h2 := List.mem_of_mem_erase hx
      have h3 : x ≠ n := fun e => by
        subst e
        exact (List.Nodup.not_mem_erase nd) hx
      have := h x h2
      omega
    have h2 : l.length ≤ (l.erase n).length + 1 := by
      rw [List.length_erase]
      split <;> omega
    omega
structure LatOk (n : Nat) (ps : List (Nat × Nat)) : Prop where
  bd : Bd n ps
  ir : Irr n (clo n ps)
  la : IsLat n (clo n ps)
  hn : n ≤ 20
  hl : ps.length ≤ 1000
end DC
namespace DC
open PySem L2 DL
end DC
namespace DC
open PySem L2 DL
end DC
namespace DC
open PySem L2 DL
end DC
namespace DC
open PySem L2 DL
end DC
namespace DC
open PySem L2 DL
def ins (l : List Nat) (x : Nat) : List Nat := if x ∈ l then l else l ++ [x]
structure Shp (l : List Nat) : Prop where
  ex : ∃ hd tl, l = hd ++ tl ∧ hd.length ≤ 3 ∧ hd ≠ [] ∧ tl.Nodup
  lt : ∀ x ∈ l, x < 8
theorem ninP {ρ : DL.Env} {i j x : Nat} {o : Bool} {l : List Nat} (hi : ρ[i]? = some (some (natD x))) (hj : ρ[j]? = some (some (.n .lst o (l.map natD)))) : dB (dOp2 gNotIn (dVar i) (dPeek j)) ρ = .ok (!decide (x ∈ l)) ρ := by
  apply out_eq
  rw [w_B, w_Op2]
  refine wo_of (var_eq hi rfl) ?_
  rw [w_Peek, hj]
  simp
  show SO (gNotIn (.a (.int (x : Int))) (.n .lst o (l.map natD))) _
  rw [o_notinN (.inl rfl)]
  rfl
end DC
namespace DC
open PySem L2 DL
instance {n : Nat} {ps : List (Nat × Nat)} : Decidable (Bd n ps) := inferInstanceAs (Decidable (∀ p ∈ ps, p.1 < n ∧ p.2 < n))
theorem addE {f g : DL.Env → Out D} {ρ : DL.Env} {a b : Nat} (hf : f ρ = .ok (natD a) ρ) (hg : g ρ = .ok (natD b) ρ) : dOp2 gAdd f g ρ = .ok (natD (a + b)) ρ := by
  apply out_eq
  rw [w_Op2, hf, wo_ok, hg, wo_ok]
  simp [natD]
end DC
namespace DC
open PySem L2 DL
theorem if_no {Q : Ps} {t : DL.Env → Out Bool} {f g : DL.Env → Fl} {ρ : DL.Env} (h : t ρ = .ok false ρ) (k : WP Q (g ρ)) : WP Q (dIf t f g ρ) := by
  rw [p_If, h, wo_ok, if_neg (by decide)]
  exact k
theorem or_no {f g : DL.Env → Out Bool} {ρ : DL.Env} (hf : f ρ = .ok false ρ) (hg : g ρ = .ok false ρ) : dOrT f g ρ = .ok false ρ := orE hf fun _ => hg
theorem tupL_eq {ρ : DL.Env} {i : Nat} {o : Bool} {xs : List D} (h : ρ[i]? = some (some (.n .lst false xs))) (hf : isFL xs = true) : dU gTuple (dVar i) ρ = .ok (.n .tup false xs) ρ := by
  apply out_eq
  rw [w_U]
  refine wo_of (var_eq h (by rw [isF_n, hf]; rfl)) ?_
  simp [hf]
theorem notV {f : DL.Env → Out D} {ρ : DL.Env} {b : Bool} (hf : f ρ = .ok (.a (.bl b)) ρ) : dNotV f ρ = .ok (.a (.bl !b)) ρ := by
  apply out_eq
  rw [w_NotV, hf, wo_ok]
  exact ⟨rfl, rfl⟩
theorem notE {f : DL.Env → Out Bool} {ρ : DL.Env} {b : Bool} (hf : f ρ = .ok b ρ) : dNotT f ρ = .ok (!b) ρ := by
  apply out_eq
  rw [w_NotT, hf, wo_ok]
  exact ⟨rfl, rfl⟩
end DC
namespace DC
open PySem L2 DL
def Pt (n : Nat) (c : Nat → Nat) : Prop := ∀ x, x < n → c x ≤ x ∧ c (c x) = c x
def Ref (n : Nat) (c d : Nat → Nat) : Prop := ∀ a b, a < n → b < n → c a = c b → d a = d b
def Con (n : Nat) (T : Tb) (c : Nat → Nat) : Prop := ∀ x y z, x < n → y < n → z < n → c x = c y → c (jn n T x z) = c (jn n T y z) ∧ c (mt n T x z) = c (mt n T y z)
section
variable {n : Nat} {T : Tb} (tT : Tr n T) (iT : Irr n T) (L : IsLat n T)
include tT iT L
end
structure Pas (n : Nat) (T : Tb) (c c' : Nat → Nat) : Prop where
  pt : Pt n c'
  le : ∀ z, z < n → c' z ≤ c z
  gr : Ref n c c'
  rf : ∀ d, Con n T d → Ref n c d → Ref n c' d
section
variable {n : Nat} {T : Tb} (tT : Tr n T) (iT : Irr n T) (L : IsLat n T)
include tT iT L
end
structure Lst (n : Nat) (T : Tb) (ps : List (Nat × Nat)) (c : Nat → Nat) : Prop where
  pt : Pt n c
  con : Con n T c
  has : ∀ p ∈ ps, c p.1 = c p.2
  le : ∀ d, Con n T d → (∀ p ∈ ps, d p.1 = d p.2) → Ref n c d
end DC
namespace DC
open PySem L2 DL
theorem ag3 {fa fb fc : DL.Env → Out D} {ρ : DL.Env} {a b c : D} (ha : fa ρ = .ok a ρ) (hb : fb ρ = .ok b ρ) (hc : fc ρ = .ok c ρ) : dACons fa (dACons fb (dACons fc dANil)) ρ = .ok [.d a, .d b, .d c] ρ := by
  apply out_eq
  rw [w_ACons, ha, wo_ok, w_ACons, hb, wo_ok, w_ACons, hc, wo_ok, w_ANil]
  exact ⟨rfl, rfl⟩
end DC
namespace DC
open PySem L2 DL
section
variable {n : Nat} {T : Tb} (tT : Tr n T) (iT : Irr n T) (L : IsLat n T)
include tT iT L
end
def pl : Nat → List (List Nat)
  | 0 => [[]]
  | x + 1 => (pl x).flatMap fun h => ((List.range (x + 1)).filter fun k => decide (k = x) || decide (itL h k = k)).map fun k => h ++ [k]
theorem nodup_sub {α : Type} [BEq α] [LawfulBEq α] : ∀ {l m : List α}, l.Nodup → (∀ x ∈ l, x ∈ m) → l.length ≤ m.length
  | [], _, _, _ => Nat.zero_le _
  | x :: l, m, nd, h => by
    have n1 := List.nodup_cons.mp nd
    have hx := h x (by simp)
    have := nodup_sub (l := l) (m := m.erase x) n1.2 fun y hy => by
      have hne : y ≠ x := fun e => n1.1 (e ▸ hy)
      exact (List.mem_erase_of_ne hne).mpr (h y (by simp [hy]))
    rw [List.length_erase_of_mem hx] at this
    have hpos := List.length_pos_of_mem hx
    rw [List.length_cons]
    omega
end DC
namespace DC
open PySem L2 DL
abbrev Ow := List (Nat × Nat)
def oAt : Ow → Nat → Option Nat
  | [], _ => none
  | p :: m, y => if p.1 = y then some p.2 else oAt m y
def oHas (m : Ow) (y : Nat) : Bool := (oAt m y).isSome
def oRep : Ow → Nat → Nat → Ow
  | [], _, _ => []
  | p :: m, y, x => (p.1, if p.1 = y then x else p.2) :: oRep m y x
def oPut (m : Ow) (y x : Nat) : Ow := if oHas m y = true then oRep m y x else m ++ [(y, x)]
theorem oAt_rep {x : Nat} : ∀ {m : Ow} {y z : Nat}, oHas m y = true → oAt (oRep m y x) z = if z = y then some x else oAt m z
  | [], y, z, h => by simp [oHas, oAt] at h
  | p :: m, y, z, h => by
    unfold oRep oAt
    by_cases q : p.1 = y
    · subst q
      by_cases e : p.1 = z
      · simp [e]
      · rw [if_neg e, if_neg e, if_neg (fun h => e h.symm)]
        clear h
        induction m with
        | nil => rfl
        | cons r m ih =>
          unfold oRep oAt
          by_cases a : r.1 = z
          · rw [if_pos a, if_pos a, if_neg (fun b => e (b.symm.trans a))]
          · rw [if_neg a, if_neg a]; exact ih
    · have h' : oHas m y = true := by
        unfold oHas oAt at h
        rw [if_neg q] at h
        exact h
      rw [oAt_rep (m := m) h', if_neg q]
      by_cases e : p.1 = z
      · rw [if_pos e, if_pos e, if_neg (fun b => q (e.trans b))]
      · rw [if_neg e, if_neg e]
theorem oAt_app {m : Ow} {y x z : Nat} (h : oAt m y = none) : oAt (m ++ [(y, x)]) z = if z = y then some x else oAt m z := by
  induction m with
  | nil =>
    show (if y = z then some x else none) = _
    by_cases e : z = y
    · rw [if_pos e, if_pos e.symm]
    · rw [if_neg e, if_neg (fun q => e q.symm)]; rfl
  | cons p m ih =>
    rw [oAt] at h
    split at h
    · cases h
    · rename_i q
      rw [List.cons_append, oAt, oAt, ih h]
      by_cases e : p.1 = z
      · rw [if_pos e, if_pos e, if_neg (fun b => q (e.trans b))]
      · rw [if_neg e, if_neg e]
theorem oAt_put {m : Ow} {y x z : Nat} : oAt (oPut m y x) z = if z = y then some x else oAt m z := by
  unfold oPut
  by_cases h : oHas m y = true
  · rw [if_pos h]; exact oAt_rep h
  · rw [if_neg h]
    refine oAt_app ?_
    unfold oHas at h
    cases e : oAt m y with
    | none => rfl
    | some _ => rw [e] at h; exact absurd rfl h
def augL (rec : Nat → List Nat → Option Ow × List Nat) (m : Ow) (x : Nat) : List Nat → List Nat → Option Ow × List Nat
  | [], T => (none, T)
  | y :: ys, T => if y ∈ T then augL rec m x ys T else (match oAt m y with
    | none => (some (oPut m y x), T ++ [y])
    | some z => (match rec z (T ++ [y]) with
      | (some m', T') => (some (oPut m' y x), T')
      | (none, T') => augL rec m x ys T'))
def aug (G : Nat → List Nat) (m : Ow) : Nat → Nat → List Nat → Option Ow × List Nat
  | 0, _, T => (none, T)
  | f + 1, x, T => augL (aug G m f) m x (G x) T
def TOk (R : Nat) (T : List Nat) : Prop := T.Nodup ∧ ∀ y ∈ T, y < R
theorem tok_le {R : Nat} {T : List Nat} (h : TOk R T) : T.length ≤ R := nodup_lt h.1 h.2
theorem tok_add {R : Nat} {T : List Nat} {y : Nat} (h : TOk R T) (hy : y < R) (n : y ∉ T) : TOk R (T ++ [y]) := by
  refine ⟨List.nodup_append.mpr ⟨h.1, by simp, fun a ha b hb e => ?_⟩, fun z m => ?_⟩
  · simp at hb; subst hb; subst e; exact n ha
  · rcases List.mem_append.mp m with m | m
    · exact h.2 z m
    · simp at m; subst m; exact hy
structure Fails (G : Nat → List Nat) (m : Ow) (R : Nat) (T T' : List Nat) : Prop where
  ok : TOk R T'
  sub : ∀ y ∈ T, y ∈ T'
  len : T.length ≤ T'.length
  own : ∀ y ∈ T', y ∉ T → ∃ z, oAt m y = some z ∧ ∀ y' ∈ G z, y' ∈ T'
theorem Fails.refl {G : Nat → List Nat} {m : Ow} {R : Nat} {T : List Nat} (h : TOk R T) : Fails G m R T T := ⟨h, fun _ m => m, Nat.le_refl _, fun y a b => absurd a b⟩
theorem aug_fails {G : Nat → List Nat} {m : Ow} {R : Nat} (hG : ∀ x, ∀ y ∈ G x, y < R) : ∀ (f x : Nat) (T T' : List Nat), TOk R T → R < f + T.length → aug G m f x T = (none, T') → Fails G m R T T' ∧ ∀ y ∈ G x, y ∈ T'
  | 0, x, T, T', h, hf, e => by
    have := tok_le h
    omega
  | f + 1, x, T, T', h, hf, e => by
    have key : ∀ (ys T : List Nat), (∀ y ∈ ys, y < R) → TOk R T → R < f + 1 + T.length → augL (aug G m f) m x ys T = (none, T') → Fails G m R T T' ∧ ∀ y ∈ ys, y ∈ T' := by
      intro ys
      induction ys with
      | nil =>
        intro T _ h _ e
        cases e
        exact ⟨Fails.refl h, fun y m => nomatch m⟩
      | cons y ys ih =>
        intro T hy h hf e
        unfold augL at e
        have hys : ∀ y ∈ ys, y < R := fun z m => hy z (List.mem_cons_of_mem _ m)
        split at e
        · rename_i yT
          obtain ⟨a, b⟩ := ih T hys h hf e
          exact ⟨a, fun z m => (List.mem_cons.mp m).elim (fun q => q ▸ a.sub y yT) (b z)⟩
        · rename_i yT
          have h1 := tok_add h (hy y List.mem_cons_self) yT
          split at e
          · cases e
          · rename_i z hz
            split at e
            · cases e
            · rename_i T1 e1
              obtain ⟨a, b⟩ := aug_fails hG f z (T ++ [y]) T1 h1 (by rw [List.length_append]; simp; omega) e1
              have l1 : T.length ≤ T1.length := by
                have := a.len
                rw [List.length_append] at this
                omega
              obtain ⟨c, d⟩ := ih T1 hys a.ok (by omega) e
              have y1 : y ∈ T1 := a.sub y (by simp)
              refine ⟨⟨c.ok, fun u m => c.sub u (a.sub u (by simp [m])), by have := c.len; omega, fun u m n => ?_⟩, fun u m => ?_⟩
              · by_cases u1 : u ∈ T1
                · by_cases uy : u = y
                  · subst uy
                    exact ⟨z, hz, fun v mv => c.sub v (b v mv)⟩
                  · obtain ⟨w, w1, w2⟩ := a.own u u1 (by simp [n, uy])
                    exact ⟨w, w1, fun v mv => c.sub v (w2 v mv)⟩
                · exact c.own u m u1
              · rcases List.mem_cons.mp m with q | q
                · subst q; exact c.sub u y1
                · exact d u q
    exact key (G x) T (hG x) h hf e
structure Augs (G : Nat → List Nat) (m : Ow) (T : List Nat) (x : Nat) (m' : Ow) : Prop where
  same : ∀ y ∈ T, oAt m' y = oAt m y
  new : ∃ y, y ∉ T ∧ oAt m' y = some x
  edge : ∀ y z, oAt m' y = some z → y ∈ G z
  stay : ∀ y z, oAt m y = some z → ∃ y', oAt m' y' = some z
  keys : ∀ y, oAt m y ≠ none → oAt m' y ≠ none
  vals : ∀ y z, y ∉ T → oAt m' y = some z → z = x ∨ ∃ y', y' ∉ T ∧ oAt m y' = some z
  inj : ∀ y y' z, y ∉ T → y' ∉ T → oAt m' y = some z → oAt m' y' = some z → y = y'
def OInj (m : Ow) : Prop := ∀ y y' z, oAt m y = some z → oAt m y' = some z → y = y'
theorem aug_augs {G : Nat → List Nat} {m : Ow} (hi : OInj m) (he : ∀ y z, oAt m y = some z → y ∈ G z) : ∀ (f x : Nat) (T : List Nat) (m' : Ow) (T' : List Nat), (∀ y, y ∉ T → oAt m y ≠ some x) → aug G m f x T = (some m', T') → Augs G m T x m'
  | 0, x, T, m', T', h, e => by cases e
  | f + 1, x, T, m', T', h, e => by
    have key : ∀ (ys T1 : List Nat), (∀ y ∈ ys, y ∈ G x) → (∀ y ∈ T, y ∈ T1) → augL (aug G m f) m x ys T1 = (some m', T') → Augs G m T x m' := by
      intro ys
      induction ys with
      | nil => intro T1 _ _ e; cases e
      | cons y ys ih =>
        intro T1 hy hs e
        unfold augL at e
        have hys : ∀ y ∈ ys, y ∈ G x := fun z m => hy z (List.mem_cons_of_mem _ m)
        have yG := hy y List.mem_cons_self
        split at e
        · exact ih T1 hys hs e
        · rename_i yT1
          have yT : y ∉ T := fun m => yT1 (hs y m)
          split at e
          · rename_i hn
            cases e
            refine ⟨fun u mu => ?_, ⟨y, yT, by rw [oAt_put, if_pos rfl]⟩, fun u z q => ?_, fun u z q => ?_, fun u q => ?_, fun u z nu q => ?_, fun u v z nu nv q r => ?_⟩
            · rw [oAt_put, if_neg (fun q : u = y => yT (q ▸ mu))]
            · rw [oAt_put] at q
              split at q
              · rename_i eu
                cases q; subst eu; exact yG
              · exact he u z q
            · refine ⟨u, ?_⟩
              rw [oAt_put, if_neg (fun w => by subst w; rw [hn] at q; cases q)]
              exact q
            · rw [oAt_put]
              split
              · exact fun w => nomatch w
              · exact q
            · rw [oAt_put] at q
              split at q
              · cases q; exact .inl rfl
              · exact .inr ⟨u, nu, q⟩
            · rw [oAt_put] at q r
              split at q
              · rename_i eu
                cases q
                split at r
                · rename_i ev
                  rw [eu, ev]
                · exact absurd r (h v nv)
              · split at r
                · cases r
                  exact absurd q (h u nu)
                · exact hi u v z q r
          · rename_i x' hx'
            split at e
            · rename_i m2 T2 e2
              cases e
              have hI : ∀ u, u ∉ T1 ++ [y] → oAt m u ≠ some x' := fun u nu q => nu (by simp [hi u y x' q hx'])
              have A := aug_augs hi he f x' (T1 ++ [y]) m2 T' hI e2
              have yA : oAt m2 y = some x' := by rw [A.same y (by simp)]; exact hx'
              -- a point outside T, not y: from m, or from m2 beyond the tried ones
              have out : ∀ u z, u ∉ T → u ≠ y → oAt m2 u = some z → (u ∈ T1 ∧ oAt m u = some z) ∨ (u ∉ T1 ++ [y] ∧ (z = x' ∨ ∃ w, w ∉ T1 ++ [y] ∧ oAt m w = some z)) := by
                intro u z nu ny q
                by_cases k : u ∈ T1
                · exact .inl ⟨k, by rw [← A.same u (by simp [k])]; exact q⟩
                · have k' : u ∉ T1 ++ [y] := by simp [k, ny]
                  exact .inr ⟨k', A.vals u z k' q⟩
              have nx : ∀ u, u ∉ T → u ≠ y → oAt m2 u ≠ some x := by
                intro u nu ny q
                rcases out u x nu ny q with ⟨k, r⟩ | ⟨k, r | ⟨w, k2, r⟩⟩
                · exact h u nu r
                · exact h y yT (r ▸ hx')
                · exact h w (fun mw => k2 (by simp [hs w mw])) r
              refine ⟨fun u mu => ?_, ⟨y, yT, by rw [oAt_put, if_pos rfl]⟩, fun u z q => ?_, fun u z q => ?_, fun u q => ?_, fun u z nu q => ?_, fun u v z nu nv q r => ?_⟩
              · rw [oAt_put, if_neg (fun q : u = y => yT (q ▸ mu))]
                exact A.same u (by simp [hs u mu])
              · rw [oAt_put] at q
                split at q
                · rename_i eu
                  cases q; subst eu; exact yG
                · exact A.edge u z q
              · by_cases ez : z = x'
                · subst ez
                  obtain ⟨w, w1, w2⟩ := A.new
                  refine ⟨w, ?_⟩
                  rw [oAt_put, if_neg (fun k => w1 (by simp [k]))]
                  exact w2
                · obtain ⟨w, w1⟩ := A.stay u z q
                  refine ⟨w, ?_⟩
                  rw [oAt_put, if_neg (fun k => by
                    subst k
                    rw [yA] at w1
                    cases w1
                    exact ez rfl)]
                  exact w1
              · rw [oAt_put]
                split
                · exact fun w => nomatch w
                · exact A.keys u q
              · rw [oAt_put] at q
                split at q
                · cases q; exact .inl rfl
                · rename_i ny
                  rcases out u z nu ny q with ⟨k, r⟩ | ⟨k, r | ⟨w, k2, r⟩⟩
                  · exact .inr ⟨u, nu, r⟩
                  · exact .inr ⟨y, yT, r ▸ hx'⟩
                  · exact .inr ⟨w, fun mw => k2 (by simp [hs w mw]), r⟩
              · rw [oAt_put] at q r
                split at q
                · rename_i eu
                  cases q
                  split at r
                  · rename_i ev
                    rw [eu, ev]
                  · rename_i ny
                    exact absurd r (nx v nv ny)
                · rename_i nuy
                  split at r
                  · cases r
                    exact absurd q (nx u nu nuy)
                  · rename_i nvy
                    have cross : ∀ a b, a ∉ T → a ≠ y → a ∈ T1 → oAt m a = some z → b ∉ T1 ++ [y] → (z = x' ∨ ∃ w, w ∉ T1 ++ [y] ∧ oAt m w = some z) → False := by
                      intro a b na nay ka ra kb o
                      rcases o with o | ⟨w, w1, w2⟩
                      · exact nay (hi a y z ra (o ▸ hx'))
                      · have := hi a w z ra w2
                        subst this
                        exact w1 (by simp [ka])
                    rcases out u z nu nuy q with ⟨k, s⟩ | ⟨k, s⟩
                    · rcases out v z nv nvy r with ⟨k', s'⟩ | ⟨k', s'⟩
                      · exact hi u v z s s'
                      · exact (cross u v nu nuy k s k' s').elim
                    · rcases out v z nv nvy r with ⟨k', s'⟩ | ⟨k', s'⟩
                      · exact (cross v u nv nvy k' s' k s).elim
                      · exact A.inj u v z k k' q r
            · rename_i T2 e2
              by_cases hT : ∀ u ∈ T1, u ∈ T2
              · exact ih T2 hys (fun u mu => hT u (hs u mu)) e
              · exfalso
                refine hT ?_
                clear ih e hT
                -- the tried ones only grow
                have gr : ∀ (f x : Nat) (T T' : List Nat) (r : Option Ow), aug G m f x T = (r, T') → ∀ u ∈ T, u ∈ T' := by
                  intro f
                  induction f with
                  | zero => intro x T T' r e; cases e; exact fun u m => m
                  | succ f ihf =>
                    intro x T T' r e
                    have key : ∀ (ys T : List Nat), augL (aug G m f) m x ys T = (r, T') → ∀ u ∈ T, u ∈ T' := by
                      intro ys
                      induction ys with
                      | nil => intro T e; cases e; exact fun u m => m
                      | cons y ys ih =>
                        intro T e
                        unfold augL at e
                        split at e
                        · exact ih T e
                        · split at e
                          · cases e; exact fun u m => by simp [m]
                          · split at e
                            · rename_i e1
                              cases e
                              exact fun u m => ihf _ _ _ _ e1 u (by simp [m])
                            · rename_i e1
                              exact fun u m => ih _ e u (ihf _ _ _ _ e1 u (by simp [m]))
                    exact key (G x) T e
                exact fun u mu => gr f x' (T1 ++ [y]) T2 none e2 u (by simp [mu])
    exact key (G x) T (fun _ m => m) (fun _ m => m) e
def OClo (G : Nat → List Nat) (m : Ow) (B : Nat → Prop) : Prop := ∀ y, B y → ∃ z, oAt m y = some z ∧ ∀ y' ∈ G z, B y'
theorem aug_clo {G : Nat → List Nat} {m : Ow} {B : Nat → Prop} (hB : OClo G m B) : ∀ (f x : Nat) (T : List Nat) (m' : Ow) (T' : List Nat), aug G m f x T = (some m', T') → (¬ ∀ y ∈ G x, B y) ∧ ∀ y, B y → oAt m' y = oAt m y
  | 0, x, T, m', T', e => by cases e
  | f + 1, x, T, m', T', e => by
    have key : ∀ (ys T : List Nat), augL (aug G m f) m x ys T = (some m', T') → (∃ y ∈ ys, ¬ B y) ∧ ∀ y, B y → oAt m' y = oAt m y := by
      intro ys
      induction ys with
      | nil => intro T e; cases e
      | cons y ys ih =>
        intro T e
        unfold augL at e
        have more : (∃ y ∈ ys, ¬ B y) → ∃ u ∈ y :: ys, ¬ B u := fun ⟨u, a, b⟩ => ⟨u, List.mem_cons_of_mem _ a, b⟩
        split at e
        · obtain ⟨a, b⟩ := ih T e
          exact ⟨more a, b⟩
        · split at e
          · rename_i hn
            cases e
            have nB : ¬ B y := fun h => by
              obtain ⟨z, hz, _⟩ := hB y h
              rw [hn] at hz; cases hz
            exact ⟨⟨y, List.mem_cons_self, nB⟩, fun u hu => by rw [oAt_put, if_neg (fun q : u = y => nB (q ▸ hu))]⟩
          · rename_i z hz
            split at e
            · rename_i m2 T2 e2
              cases e
              obtain ⟨a, b⟩ := aug_clo hB f z _ m2 T' e2
              have nB : ¬ B y := fun h => by
                obtain ⟨z', hz', q⟩ := hB y h
                rw [hz] at hz'
                cases hz'
                exact a q
              exact ⟨⟨y, List.mem_cons_self, nB⟩, fun u hu => by rw [oAt_put, if_neg (fun q : u = y => nB (q ▸ hu))]; exact b u hu⟩
            · obtain ⟨a, b⟩ := ih _ e
              exact ⟨more a, b⟩
    obtain ⟨⟨y, a, b⟩, c⟩ := key (G x) T e
    exact ⟨fun h => b (h y a), c⟩
structure MOk (G : Nat → List Nat) (k : Nat) (m : Ow) : Prop where
  inj : OInj m
  edge : ∀ y z, oAt m y = some z → y ∈ G z
  low : ∀ y z, oAt m y = some z → z < k
  clo : ∃ B : Nat → Prop, OClo G m B ∧ ∀ x, x < k → (∃ y, oAt m y = some x) ∨ ∀ y ∈ G x, B y
theorem mok_nil {G : Nat → List Nat} : MOk G 0 [] := ⟨fun _ _ _ e => by simp [oAt] at e, fun _ _ e => by simp [oAt] at e, fun _ _ e => by simp [oAt] at e, fun _ => False, fun _ h => h.elim, fun x h => absurd h (Nat.not_lt_zero x)⟩
theorem mok_none {G : Nat → List Nat} {R f k : Nat} {m : Ow} {T' : List Nat} (hG : ∀ x, ∀ y ∈ G x, y < R) (h : MOk G k m) (hf : R < f) (e : aug G m f k [] = (none, T')) : MOk G (k + 1) m := by
  obtain ⟨a, b⟩ := aug_fails hG f k [] T' ⟨List.nodup_nil, fun _ m => nomatch m⟩ (by simpa using hf) e
  obtain ⟨B, hB, hx⟩ := h.clo
  refine ⟨h.inj, h.edge, fun y z q => Nat.lt_succ_of_lt (h.low y z q), fun y => B y ∨ y ∈ T', fun y hy => ?_, fun x hk => ?_⟩
  · rcases hy with hy | hy
    · obtain ⟨z, hz, q⟩ := hB y hy
      exact ⟨z, hz, fun u mu => .inl (q u mu)⟩
    · obtain ⟨z, hz, q⟩ := a.own y hy (fun m => nomatch m)
      exact ⟨z, hz, fun u mu => .inr (q u mu)⟩
  · rcases Nat.lt_succ_iff_lt_or_eq.mp hk with q | q
    · exact (hx x q).imp id fun g y my => .inl (g y my)
    · subst q
      exact .inr fun y my => .inr (b y my)
theorem mok_some {G : Nat → List Nat} {f k : Nat} {m m' : Ow} {T' : List Nat} (h : MOk G k m) (e : aug G m f k [] = (some m', T')) : MOk G (k + 1) m' := by
  have A := aug_augs h.inj h.edge f k [] m' T' (fun y _ q => Nat.lt_irrefl k (h.low y k q)) e
  obtain ⟨B, hB, hx⟩ := h.clo
  obtain ⟨_, c⟩ := aug_clo hB f k [] m' T' e
  refine ⟨fun y y' z => A.inj y y' z (fun m => nomatch m) (fun m => nomatch m), A.edge, fun y z q => ?_, B, fun y hy => ?_, fun x hk => ?_⟩
  · rcases A.vals y z (fun m => nomatch m) q with q | ⟨w, _, q⟩
    · omega
    · exact Nat.lt_succ_of_lt (h.low w z q)
  · rw [c y hy]
    exact hB y hy
  · rcases Nat.lt_succ_iff_lt_or_eq.mp hk with q | q
    · rcases hx x q with ⟨y, r⟩ | r
      · exact .inl (A.stay y x r)
      · exact .inr r
    · subst q
      obtain ⟨y, _, r⟩ := A.new
      exact .inl ⟨y, r⟩
end DC
namespace DC
open PySem L2 DL
end DC
namespace DC
open PySem L2 DL
theorem ag1 {fa : DL.Env → Out D} {ρ : DL.Env} {a : D} (ha : fa ρ = .ok a ρ) : dACons fa dANil ρ = .ok [.d a] ρ := by
  apply out_eq
  rw [w_ACons, ha, wo_ok, w_ANil]
  exact ⟨rfl, rfl⟩
theorem callE {F : List D → FR} {g : DL.Env → Out (List Ag)} {ρ : DL.Env} {ds : List D} {d : D} {k : Nat} (hg : g ρ = .ok (ds.map Ag.d) ρ) (hf : isFL ds = true) (hk : ds.length = k) (hF : F ds = .rt d none) : dCall k F g ρ = .ok d ρ := by
  apply out_eq
  rw [w_Call, hg, wo_ok]
  have e : agL (ds.map Ag.d) = some ds := by
    clear hg hf hk hF
    induction ds with
    | nil => rfl
    | cons a l ih => rw [List.map_cons, agL, ih]; rfl
  rw [e, so_some, frzL_isFL _ hf, hF]
  exact ⟨hk, rfl, rfl⟩
theorem call1 {F : List D → FR} {fa : DL.Env → Out D} {ρ : DL.Env} {a d : D} (ha : fa ρ = .ok a ρ) (h1 : isF a = true) (hF : F [a] = .rt d none) : dCall 1 F (dACons fa dANil) ρ = .ok d ρ := callE (ds := [a]) (ag1 ha) (by simp [isFL, h1]) rfl hF
theorem call2 {F : List D → FR} {fa fb : DL.Env → Out D} {ρ : DL.Env} {a b d : D} (ha : fa ρ = .ok a ρ) (hb : fb ρ = .ok b ρ) (h1 : isF a = true) (h2 : isF b = true) (hF : F [a, b] = .rt d none) : dCall 2 F (dACons fa (dACons fb dANil)) ρ = .ok d ρ := callE (ds := [a, b]) (ag2 ha hb) (by simp [isFL, h1, h2]) rfl hF
theorem call3 {F : List D → FR} {fa fb fc : DL.Env → Out D} {ρ : DL.Env} {a b c d : D} (ha : fa ρ = .ok a ρ) (hb : fb ρ = .ok b ρ) (hc : fc ρ = .ok c ρ) (h1 : isF a = true) (h2 : isF b = true) (h3 : isF c = true) (hF : F [a, b, c] = .rt d none) : dCall 3 F (dACons fa (dACons fb (dACons fc dANil))) ρ = .ok d ρ := callE (ds := [a, b, c]) (ag3 ha hb hc) (by simp [isFL, h1, h2, h3]) rfl hF
theorem cE {x : At} {ρ : DL.Env} : dC x ρ = .ok (.a x) ρ := rfl
theorem uE {g : D → Option D} {f : DL.Env → Out D} {ρ : DL.Env} {a d : D} (hf : f ρ = .ok a ρ) (h : ∀ P : D → Prop, SO (g a) P = P d) : dU g f ρ = .ok d ρ := by
  apply out_eq
  rw [w_U, hf, wo_ok, h]
  exact ⟨rfl, rfl⟩
theorem op2E {g : D → D → Option D} {f1 f2 : DL.Env → Out D} {ρ : DL.Env} {a b d : D} (h1 : f1 ρ = .ok a ρ) (h2 : f2 ρ = .ok b ρ) (h : ∀ P : D → Prop, SO (g a b) P = P d) : dOp2 g f1 f2 ρ = .ok d ρ := by
  apply out_eq
  rw [w_Op2, h1, wo_ok, h2, wo_ok, h]
  exact ⟨rfl, rfl⟩
theorem tLen {l : List Nat} {P : D → Prop} : SO (gLen (tupN l)) P = P (natD l.length) := by unfold tupN; simp [natD]
end DC
namespace DC
open PySem L2 DL
def dOw (o : Bool) (m : Ow) : D := .n (.dct (m.map fun p => ky p.1)) o (m.map fun p => natD p.2)
theorem isF_dOw {m : Ow} : isF (dOw false m) = true := by
  unfold dOw
  rw [isF_n, isFL_map fun _ => rfl]
  rfl
theorem frz_dOw {o : Bool} {m : Ow} : frz (dOw o m) = dOw false m := by
  unfold dOw
  show D.n _ false (frzL _) = _
  rw [frzL_isFL _ (isFL_map fun _ => rfl)]
theorem dctAt_ow {y : Nat} : ∀ {m : Ow}, dctAt (m.map fun p => ky p.1) (m.map fun p => natD p.2) (ky y) = (oAt m y).map natD
  | [] => rfl
  | p :: m => by
    rw [List.map_cons, List.map_cons, oAt]
    show (if ky p.1 = ky y then some (natD p.2) else _) = _
    by_cases e : p.1 = y
    · rw [if_pos (ky_inj.mpr e), if_pos e]; rfl
    · rw [if_neg (fun h => e (ky_inj.mp h)), if_neg e]; exact dctAt_ow
theorem hasK_ow {y : Nat} : ∀ {m : Ow}, hasK (ky y) (m.map fun p => ky p.1) = oHas m y
  | [] => rfl
  | p :: m => by
    unfold oHas
    rw [List.map_cons, oAt]
    show (decide (ky p.1 = ky y) || hasK (ky y) _) = _
    rw [hasK_ow]
    by_cases e : p.1 = y
    · rw [decide_eq_true (ky_inj.mpr e), if_pos e]; rfl
    · rw [decide_eq_false (fun h => e (ky_inj.mp h)), if_neg e]; rfl
theorem putR_ow {y x : Nat} : ∀ {m : Ow}, putR (m.map fun p => ky p.1) (m.map fun p => natD p.2) (ky y) (natD x) = (oRep m y x).map fun p => natD p.2
  | [] => rfl
  | p :: m => by
    rw [List.map_cons, List.map_cons, oRep, List.map_cons]
    show (if ky p.1 = ky y then natD x else natD p.2) :: putR _ _ _ _ = _
    rw [putR_ow]
    by_cases e : p.1 = y
    · rw [if_pos (ky_inj.mpr e), if_pos e]
    · rw [if_neg (fun h => e (ky_inj.mp h)), if_neg e]
theorem oRep_keys {y x : Nat} : ∀ {m : Ow}, (oRep m y x).map (fun p => ky p.1) = m.map fun p => ky p.1
  | [] => rfl
  | p :: m => by rw [oRep, List.map_cons, List.map_cons, oRep_keys]
theorem put_ow {y x : Nat} {m : Ow} {o : Bool} : D.n (.dct (putKs (m.map fun p => ky p.1) (ky y))) o (putXs (m.map fun p => ky p.1) (m.map fun p => natD p.2) (ky y) (natD x)) = dOw o (oPut m y x) := by
  unfold putKs putXs dOw oPut
  rw [hasK_ow]
  by_cases h : oHas m y = true
  · rw [if_pos h, if_pos h, if_pos h, putR_ow, oRep_keys]
  · rw [if_neg h, if_neg h, if_neg h, List.map_append, List.map_append]; rfl
theorem oPut_len {m : Ow} {y x : Nat} : (oPut m y x).length ≤ m.length + 1 := by
  unfold oPut
  split
  · have : ∀ m : Ow, (oRep m y x).length = m.length := by
      intro m
      induction m with
      | nil => rfl
      | cons p m ih => rw [oRep, List.length_cons, List.length_cons, ih]
    rw [this]; omega
  · simp
theorem dispS_eq {i j l y x : Nat} {o : Bool} {m : Ow} {ρ : DL.Env} (h1 : ρ[i]? = some (some (dOw o m))) (h2 : ρ[j]? = some (some (natD y))) (h3 : ρ[l]? = some (some (natD x))) (hc : m.length < 1000000) : dDispS i j l ρ = .ok (dOw true (oPut m y x)) ρ := by
  unfold dDispS
  rw [h1, h2, h3]
  have hf : isFL (m.map fun p => natD p.2) = true := isFL_map fun _ => rfl
  show (if isFL (m.map fun p => natD p.2) = true ∧ (m.map fun p => natD p.2).length < cap then Out.ok (D.n (.dct (putKs (m.map fun p => ky p.1) (ky y))) true (putXs (m.map fun p => ky p.1) (m.map fun p => natD p.2) (ky y) (natD x))) ρ else .st) = _
  rw [if_pos ⟨hf, by rw [List.length_map]; exact hc⟩, put_ow]
theorem din_eq {i y : Nat} {neg o : Bool} {m : Ow} {f : DL.Env → Out D} {ρ : DL.Env} (h1 : ρ[i]? = some (some (dOw o m))) (h2 : f ρ = .ok (natD y) ρ) : dB (dDIn neg i f) ρ = .ok (if neg then !oHas m y else oHas m y) ρ := by
  apply out_eq
  rw [w_B, w_DIn, h2, wo_ok]
  show SO (ρ[i]?) _
  rw [h1, so_some, so_some]
  show (m.map fun p => ky p.1).length = (m.map fun p => natD p.2).length ∧ asB (.a (.bl (if neg then !hasK (ky y) (m.map fun p => ky p.1) else hasK (ky y) (m.map fun p => ky p.1)))) _
  rw [hasK_ow, asB_bl]
  exact ⟨by simp, rfl, rfl⟩
theorem dgetO_eq {i y x : Nat} {o : Bool} {m : Ow} {f : DL.Env → Out D} {ρ : DL.Env} (h1 : ρ[i]? = some (some (dOw o m))) (h2 : f ρ = .ok (natD y) ρ) (h : oAt m y = some x) : dDGet i f ρ = .ok (natD x) ρ := by
  apply out_eq
  rw [w_DGet, h1, so_some, so_some]
  show WO NoE _ (f ρ)
  rw [h2, wo_ok]
  show SO (ρ[i]?) _
  rw [h1, so_some, so_some]
  show SO (dctAt (m.map fun p => ky p.1) (m.map fun p => natD p.2) (ky y)) _
  rw [dctAt_ow, h]
  exact ⟨rfl, rfl, rfl⟩
theorem callL4 {F : List D → FR} {fa fb fc : DL.Env → Out D} {ρ : DL.Env} {i : Nat} {a b c d0 d d1 : D} (ha : fa ρ = .ok a ρ) (hb : fb ρ = .ok b ρ) (hc : fc ρ = .ok c ρ) (h0 : ρ[i]? = some (some d0)) (h1 : isF a = true) (h2 : isF b = true) (h3 : isF c = true)
    (hF : F [a, b, c, d0] = .rt d (some d1)) : dCallL 4 (some 3) F (dACons fa (dACons fb (dACons fc (dALent i dANil)))) ρ = .ok d (ρ.set i (some d1)) := by
  have e : dACons fa (dACons fb (dACons fc (dALent i dANil))) ρ = .ok [.d a, .d b, .d c, .s i] ρ := by
    apply out_eq
    rw [w_ACons, ha, wo_ok, w_ACons, hb, wo_ok, w_ACons, hc, wo_ok, w_ALent, h0, so_some, so_some, w_ANil]
    exact ⟨rfl, rfl⟩
  unfold dCallL
  rw [e]
  show (match ρ[i]? with | some (some d0) => _ | _ => _) = _
  rw [h0]
  show (if (some 3 = some 3 ∧ _) then (match F (frzL [a, b, c] ++ [d0]) with | .rt d (some d1) => _ | .ex e (some d1) => _ | _ => _) else _) = _
  rw [if_pos ⟨rfl, rfl⟩, frzL_isFL [a, b, c] (by simp [isFL, h1, h2, h3])]
  show (match F [a, b, c, d0] with | .rt d (some d1) => _ | .ex e (some d1) => _ | _ => _) = _
  rw [hF]
theorem callN4 {F : List D → FR} {fa fb fc : DL.Env → Out D} {ρ : DL.Env} {a b c d : D} {io : Option D} (ha : fa ρ = .ok a ρ) (hb : fb ρ = .ok b ρ) (hc : fc ρ = .ok c ρ) (h1 : isF a = true) (h2 : isF b = true) (h3 : isF c = true)
    (hF : F [a, b, c, .lst true []] = .rt d io) : dCallN 4 3 F (dACons fa (dACons fb (dACons fc (dACons (dLst dANil) dANil)))) ρ = .ok d ρ := by
  have e : dACons fa (dACons fb (dACons fc (dACons (dLst dANil) dANil))) ρ = .ok [.d a, .d b, .d c, .d (.lst true [])] ρ := by
    apply out_eq
    rw [w_ACons, ha, wo_ok, w_ACons, hb, wo_ok, w_ACons, hc, wo_ok, w_ACons]
    simp
  unfold dCallN
  rw [e]
  show (if (4 : Nat) = 4 then (match F (frzL [a, b, c] ++ [.lst true []]) with | .rt d _ => _ | .ex e _ => _ | .st => _) else _) = _
  rw [if_pos rfl, frzL_isFL [a, b, c] (by simp [isFL, h1, h2, h3])]
  show (match F [a, b, c, .lst true []] with | .rt d _ => _ | .ex e _ => _ | .st => _) = _
  rw [hF]
def nbr (R : Nat) (js : List Nat) (x : Nat) : List Nat := (List.range R).filter (js.getD x 0).testBit
theorem nbr_lt {R : Nat} {js : List Nat} : ∀ x, ∀ y ∈ nbr R js x, y < R := fun x y m => List.mem_range.mp (List.mem_filter.mp m).1
def lstN (o : Bool) (T : List Nat) : D := .n .lst o (T.map natD)
theorem aug_len {G : Nat → List Nat} {m : Ow} : ∀ (f x : Nat) (T : List Nat) (m' : Ow) (T' : List Nat), aug G m f x T = (some m', T') → m'.length ≤ m.length + f
  | 0, x, T, m', T', e => by cases e
  | f + 1, x, T, m', T', e => by
    have key : ∀ (ys T : List Nat), augL (aug G m f) m x ys T = (some m', T') → m'.length ≤ m.length + (f + 1) := by
      intro ys
      induction ys with
      | nil => intro T e; cases e
      | cons y ys ih =>
        intro T e
        unfold augL at e
        split at e
        · exact ih T e
        · split at e
          · cases e
            have := oPut_len (m := m) (y := y) (x := x)
            omega
          · split at e
            · rename_i m2 T2 e2
              cases e
              have := aug_len f _ _ m2 T' e2
              have := oPut_len (m := m2) (y := y) (x := x)
              omega
            · exact ih _ e
    exact key (G x) T e
def augR (r : Option Ow × List Nat) : FR := match r with
  | (none, T) => .rt (.a .non) (some (lstN true T))
  | (some m, T) => .rt (dOw true m) (some (lstN true T))
theorem tixN {l : List Nat} {x v : Nat} {P : D → Prop} (h : l[x]? = some v) : SO (gIx (tupN l) (.a (.int (x : Int)))) P = P (natD v) := by
  unfold gIx tupN
  rw [ixT (show (l.map natD)[x]? = some (natD v) by rw [List.getElem?_map, h]; rfl)]
  rfl
theorem notNon {f : DL.Env → Out D} {ρ : DL.Env} (hf : f ρ = .ok (.a .non) ρ) : dB (dOp2 gIsNot f (dC .non)) ρ = .ok false ρ := by
  apply out_eq
  rw [w_B, w_Op2, hf, wo_ok, w_C]
  have : gIsNot (.a .non) (.a .non) = some (.a (.bl false)) := by kernel_rfl
  rw [this, so_some, asB_bl]
  exact ⟨rfl, rfl⟩
theorem notDct {f : DL.Env → Out D} {ρ : DL.Env} {o : Bool} {m : Ow} (hf : f ρ = .ok (dOw o m) ρ) : dB (dOp2 gIsNot f (dC .non)) ρ = .ok true ρ := by
  apply out_eq
  rw [w_B, w_Op2, hf, wo_ok, w_C]
  have : gIsNot (dOw o m) (.a .non) = some (.a (.bl true)) := by rfl
  rw [this, so_some, asB_bl]
  exact ⟨rfl, rfl⟩
theorem forL_cons {Q : Ps} {g : D → DL.Env → Option DL.Env} {f : DL.Env → Fl} {d : D} {ds : List D} {ρ : DL.Env} (h : SO (g d ρ) fun ρ1 => WP ⟨fun ρ2 => WP Q (forL g f ds ρ2), Q.rt, Q.nx, fun ρ2 => WP Q (forL g f ds ρ2), Q.ex⟩ (f ρ1)) : WP Q (forL g f (d :: ds) ρ) := by
  unfold forL
  cases e : g d ρ with
  | none => rw [e] at h; exact h.elim
  | some ρ1 =>
    rw [e, so_some] at h
    dsimp only
    cases e1 : f ρ1 <;> rw [e1] at h <;> exact h
theorem forL_nil {Q : Ps} {g : D → DL.Env → Option DL.Env} {f : DL.Env → Fl} {ρ : DL.Env} (h : Q.nx ρ) : WP Q (forL g f [] ρ) := h
def OLow (n : Nat) (m : Ow) : Prop := ∀ y z, oAt m y = some z → z < n
theorem augment_eq {R : Nat} {js : List Nat} {m : Ow} (hR : R ≤ 60) (hj : ∀ j ∈ js, j < 2 ^ R) (hl : OLow js.length m) (hm : m.length ≤ 900) : ∀ (f x : Nat) (T : List Nat), f ≤ 12 → x < js.length → TOk R T → R < f + T.length → R_augment f [tupN js, dOw false m, natD x, lstN true T] = augR (aug (nbr R js) m f x T)
  | 0, x, T, _, _, h, hf => by
    have := tok_le h
    omega
  | f + 1, x, T, h12, hx, hT, hf => by
    have hxj : js[x]? = some (js.getD x 0) := by
      rw [List.getD_eq_getElem?_getD, List.getElem?_eq_getElem hx]
      rfl
    have hjx : js.getD x 0 < 2 ^ R := hj _ (List.mem_of_getElem? hxj)
    -- the loop
    have loop : ∀ (ys T : List Nat) (oy od : Option D), (∀ y ∈ ys, y < R) → TOk R T → R < f + 1 + T.length → (∀ d, oy = some d → isF d = true) → (∀ d, od = some d → isF d = true) → ∀ Q : Ps,
        (match augL (aug (nbr R js) m f) m x ys T with
          | (none, T') => ∀ oy od, Q.nx [some (tupN js), some (dOw false m), some (natD x), some (lstN true T'), oy, od]
          | (some m', T') => ∀ oy od, Q.rt (dOw true m') [some (tupN js), some (dOw false m), some (natD x), some (lstN true T'), oy, od]) →
        WP Q (forL (tg1 4) (dIf (dB (dOp2 gNotIn (dVar 4) (dPeek 3))) (dSeq (dHas 3 (dBind (dVar 4) (stApp 3)))
          (dSeq (dIf (dB (dDIn true 1 (dVar 4))) (dBind (dDispS 1 4 2) fun d ρ => .rt d ρ) dNext)
          (dSeq (dBind (dFz (dCallL 4 (some 3) (R_augment f) (dACons (dVar 0) (dACons (dVar 1) (dACons (dDGet 1 (dVar 4)) (dALent 3 dANil)))))) (stSet 5))
          (dIf (dB (dOp2 gIsNot (dVar 5) (dC .non))) (dBind (dDispS 5 4 2) fun d ρ => .rt d ρ) dNext)))) dNext) (ys.map natD) [some (tupN js), some (dOw false m), some (natD x), some (lstN true T), oy, od]) := by
      intro ys
      induction ys with
      | nil =>
        intro T oy od _ _ _ _ _ Q h
        exact forL_nil (h oy od)
      | cons y ys ih =>
        intro T oy od hy hT hf foy fod Q h
        rw [List.map_cons]
        refine forL_cons ?_
        rw [s_tg1]
        refine ⟨by simp, ?_⟩
        show WP _ (dIf _ _ _ [some (tupN js), some (dOw false m), some (natD x), some (lstN true T), some (natD y), od])
        have hys : ∀ y ∈ ys, y < R := fun z m => hy z (List.mem_cons_of_mem _ m)
        have h2 := hy y List.mem_cons_self
        rw [p_If, ninP (l := T) (o := true) rfl rfl, wo_ok]
        unfold augL at h
        by_cases yT : y ∈ T
        · rw [if_pos yT] at h
          rw [decide_eq_true yT, if_neg (by decide)]
          exact ih T (some (natD y)) od hys hT hf (fun d e => by cases e; rfl) fod Q h
        · rw [if_neg yT] at h
          rw [decide_eq_false yT, if_pos (by decide)]
          have hT1 := tok_add hT h2 yT
          have l1 : (T ++ [y]).length = T.length + 1 := by simp
          refine wp_step fun K hK => ?_
          rw [wx, p_Has]
          refine ⟨True.intro, ?_⟩
          rw [p_Bind]
          refine wo_of (var_eq rfl rfl) ?_
          rw [p_App]
          refine ⟨by rw [List.length_map]; have := tok_le hT; show T.length < 1000000; omega, ?_⟩
          apply hK
          clear hK K
          have eT : D.lst true (T.map natD ++ [natD y]) = lstN true (T ++ [y]) := by unfold lstN; rw [List.map_append]; rfl
          show WP _ (dSeq _ _ [some (tupN js), some (dOw false m), some (natD x), some (D.lst true (T.map natD ++ [natD y])), some (natD y), od])
          rw [eT]
          refine wp_step fun K hK => ?_
          rw [wx, p_If, din_eq (m := m) (o := false) (y := y) rfl (var_eq rfl rfl), wo_ok]
          cases hy1 : oAt m y with
          | none =>
            rw [hy1] at h
            have e1 : oHas m y = false := by unfold oHas; rw [hy1]; rfl
            rw [e1, if_pos (by rfl), p_Bind, dispS_eq (m := m) (o := false) (y := y) (x := x) rfl rfl rfl (by omega), wo_ok]
            exact h _ _
          | some z =>
            rw [hy1] at h
            have e1 : oHas m y = true := by unfold oHas; rw [hy1]; rfl
            rw [e1, if_neg (by decide)]
            apply hK
            clear hK K
            have ih2 := augment_eq hR hj hl hm f z (T ++ [y]) (by omega) (hl y z hy1) hT1 (by omega)
            refine wp_step fun K hK => ?_
            rw [wx, p_Bind, w_Fz]
            cases hr : aug (nbr R js) m f z (T ++ [y]) with
            | mk r T2 =>
            dsimp only at h
            rw [hr] at h ih2
            have dg : dDGet 1 (dVar 4) [some (tupN js), some (dOw false m), some (natD x), some (lstN true (T ++ [y])), some (natD y), od] = .ok (natD z) _ := dgetO_eq (m := m) (o := false) rfl (var_eq rfl rfl) hy1
            cases r with
            | none =>
              rw [callL4 (var_eq rfl isF_tupN) (var_eq rfl isF_dOw) dg rfl isF_tupN isF_dOw rfl ih2, wo_ok, p_Set]
              refine ⟨by simp, ?_⟩
              apply hK
              clear hK K
              show WP _ (dIf _ _ _ [some (tupN js), some (dOw false m), some (natD x), some (lstN true T2), some (natD y), some (.a .non)])
              refine if_no (notNon (var_eq rfl rfl)) ?_
              dsimp only at h
              obtain ⟨a, _⟩ := aug_fails nbr_lt f z (T ++ [y]) T2 hT1 (by omega) hr
              exact ih T2 (some (natD y)) (some (.a .non)) hys a.ok (by have := a.len; omega) (fun d e => by cases e; rfl) (fun d e => by cases e; rfl) Q h
            | some m2 =>
              rw [callL4 (var_eq rfl isF_tupN) (var_eq rfl isF_dOw) dg rfl isF_tupN isF_dOw rfl ih2, wo_ok, p_Set]
              refine ⟨by simp, ?_⟩
              apply hK
              clear hK K
              rw [frz_dOw]
              show WP _ (dIf _ _ _ [some (tupN js), some (dOw false m), some (natD x), some (lstN true T2), some (natD y), some (dOw false m2)])
              have l2 := aug_len f z _ m2 T2 hr
              have hnn : dB (dOp2 gIsNot (dVar 5) (dC .non)) [some (tupN js), some (dOw false m), some (natD x), some (lstN true T2), some (natD y), some (dOw false m2)] = .ok true [some (tupN js), some (dOw false m), some (natD x), some (lstN true T2), some (natD y), some (dOw false m2)] := by
                exact notDct (var_eq rfl isF_dOw)
              rw [p_If, hnn, wo_ok, if_pos rfl, p_Bind, dispS_eq (m := m2) (o := false) (y := y) (x := x) rfl rfl rfl (by omega), wo_ok]
              exact h _ _
    have hm2 := members_eq (m := js.getD x 0) (n := R) hjx (by omega)
    show fnD 6 (some 3) (B_augment (R_augment f)) _ = _
    cases hr : aug (nbr R js) m (f + 1) x T with
    | mk r T2 =>
    have lp := loop (nbr R js x) T none none (nbr_lt x) hT hf (fun d e => nomatch e) (fun d e => nomatch e)
    have hr2 : augL (aug (nbr R js) m f) m x (nbr R js x) T = (r, T2) := hr
    rw [hr2] at lp
    have src : dIter (dCall 1 F_members (dACons (dOp2 gIx (dVar 0) (dVar 2)) dANil)) [some (tupN js), some (dOw false m), some (natD x), some (lstN true T), none, none] = .ok ((nbr R js x).map natD) [some (tupN js), some (dOw false m), some (natD x), some (lstN true T), none, none] := by
      refine src_lst (.inr rfl) (call1 (op2E (var_eq rfl isF_tupN) (var_eq rfl rfl) fun P => ?_) rfl hm2) ?_
      · exact tixN hxj
      · unfold nbr
        have := List.length_filter_le (js.getD x 0).testBit (List.range R)
        rw [List.length_range] at this
        omega
    cases r with
    | none =>
      apply wf_eq
      unfold B_augment
      rw [wf_fn]
      show WP _ (dSeq _ _ [some (tupN js), some (dOw false m), some (natD x), some (lstN true T), none, none])
      refine wp_step fun K hK => ?_
      rw [wx, p_For, src, wo_ok]
      refine lp _ fun oy od => ?_
      apply hK
      clear hK K
      simp [ioOf]
    | some m2 =>
      apply wf_eq
      unfold B_augment
      rw [wf_fn]
      show WP _ (dSeq _ _ [some (tupN js), some (dOw false m), some (natD x), some (lstN true T), none, none])
      refine wp_step fun K hK => ?_
      rw [wx, p_For, src, wo_ok]
      refine lp _ fun oy od => ?_
      simp [ioOf]
end DC
set_option pp.maxSteps 1500
namespace DC
open PySem L2 DL
def mK (R : Nat) (js : List Nat) : Nat → Ow
  | 0 => []
  | k + 1 => match aug (nbr R js) (mK R js k) 12 k [] with
    | (some m, _) => m
    | (none, _) => mK R js k
theorem mK_ok {R : Nat} {js : List Nat} (hR : R ≤ 10) : ∀ k, MOk (nbr R js) k (mK R js k)
  | 0 => mok_nil
  | k + 1 => by
    have ih := mK_ok (js := js) hR k
    rw [mK]
    split
    · rename_i m T e
      exact mok_some ih e
    · rename_i T e
      exact mok_none nbr_lt ih (by omega) e
theorem mK_len {R : Nat} {js : List Nat} : ∀ k, (mK R js k).length ≤ 12 * k
  | 0 => Nat.le_refl _
  | k + 1 => by
    have ih := mK_len (R := R) (js := js) k
    rw [mK]
    split
    · rename_i m T e
      have := aug_len 12 k [] m T e
      omega
    · omega
def mv (m : Ow) : Nat → Nat → Int
  | 0, _ => -1
  | k + 1, x => if oAt m k = some x then (k : Int) else mv m k x
theorem mv_cases {m : Ow} (hi : OInj m) : ∀ {k x : Nat}, (∃ y, y < k ∧ oAt m y = some x ∧ mv m k x = (y : Int)) ∨ ((∀ y, y < k → oAt m y ≠ some x) ∧ mv m k x = -1)
  | 0, x => .inr ⟨fun y h => absurd h (Nat.not_lt_zero y), rfl⟩
  | k + 1, x => by
    rw [mv]
    by_cases e : oAt m k = some x
    · rw [if_pos e]
      exact .inl ⟨k, Nat.lt_succ_self k, e, rfl⟩
    · rw [if_neg e]
      rcases mv_cases hi (k := k) (x := x) with ⟨y, h1, h2, h3⟩ | ⟨h1, h2⟩
      · exact .inl ⟨y, Nat.lt_succ_of_lt h1, h2, h3⟩
      · refine .inr ⟨fun y hy => ?_, h2⟩
        rcases Nat.lt_succ_iff_lt_or_eq.mp hy with q | q
        · exact h1 y q
        · subst q; exact e
def matD (o : Bool) (k : Kd) (n : Nat) (m : Ow) (r : Nat) : D := .n k o (vec n fun x => .a (.int (mv m r x)))
theorem map_const_vec {α : Type} {d : D} {l : List α} : l.map (fun _ => d) = vec l.length fun _ => d := by
  unfold vec
  rw [List.map_const', List.map_const', List.length_range]
theorem largest_matching_eq {R : Nat} {js : List Nat} (hR : R ≤ 10) (hj : ∀ j ∈ js, j < 2 ^ R) (hn : js.length ≤ 20) : F_largest_matching [tupN js, natD R] = .rt (matD false .tup js.length (mK R js js.length) R) none := by
  apply wf_eq
  unfold F_largest_matching
  rw [wf_fn]
  unfold B_largest_matching
  show WP _ (dSeq _ _ [some (tupN js), some (natD R), none, none, none, none, none, none])
  refine wp_step fun K hK => ?_
  rw [wx, p_Bind]
  refine wo_of (x := dOw false []) rfl ?_
  rw [p_Set]
  refine ⟨by simp, ?_⟩
  apply hK
  clear hK K
  show WP _ (dSeq _ _ [some (tupN js), some (natD R), some (dOw false []), none, none, none, none, none])
  refine wp_cutK (fun ρ => ∃ ox of, ρ = [some (tupN js), some (natD R), some (dOw false (mK R js js.length)), ox, none, none, of, none]) (fun K hK => ?_) ?_
  · have hs : dRng1 (dU gLen (dVar 0)) [some (tupN js), some (natD R), some (dOw false []), none, none, none, none, none] = .ok ((List.range js.length).map natD) [some (tupN js), some (natD R), some (dOw false []), none, none, none, none, none] :=
      src_rngN (uE (var_eq rfl isF_tupN) fun P => tLen) (by omega)
    rw [wx, p_For, hs, wo_ok]
    refine wp_forK (fun k ρ => ∃ ox of, ρ = [some (tupN js), some (natD R), some (dOw false (mK R js k)), ox, none, none, of, none] ∧ (∀ d, ox = some d → isF d = true) ∧ (∀ d, of = some d → isF d = true)) ⟨none, none, rfl, (fun d e => nomatch e), (fun d e => nomatch e)⟩ ?_ ?_
    · rintro k d ρ hd ⟨ox, of, rfl, f1, f2⟩ J hJ
      obtain ⟨hk, rfl⟩ := vec_get' (f := natD) hd
      rw [s_tg1]
      refine ⟨by simp, ?_⟩
      show WP _ (dSeq _ _ [some (tupN js), some (natD R), some (dOw false (mK R js k)), some (natD k), none, none, of, none])
      have ok := mK_ok (js := js) hR k
      have ln := mK_len (R := R) (js := js) k
      have au : F_augment [tupN js, dOw false (mK R js k), natD k, .lst true []] = _ := augment_eq (R := R) (by omega) hj (m := mK R js k) (fun y z e => Nat.lt_trans (ok.low y z e) hk) (by omega) 12 k [] (Nat.le_refl _) hk ⟨List.nodup_nil, fun _ m => nomatch m⟩ (by simp; omega)
      have em : mK R js (k + 1) = match aug (nbr R js) (mK R js k) 12 k [] with
        | (some m, _) => m
        | (none, _) => mK R js k := rfl
      have v0 : dVar 0 [some (tupN js), some (natD R), some (dOw false (mK R js k)), some (natD k), none, none, of, none] = .ok (tupN js) _ := var_eq rfl isF_tupN
      have v2 : dVar 2 [some (tupN js), some (natD R), some (dOw false (mK R js k)), some (natD k), none, none, of, none] = .ok (dOw false (mK R js k)) _ := var_eq rfl isF_dOw
      have v3 : dVar 3 [some (tupN js), some (natD R), some (dOw false (mK R js k)), some (natD k), none, none, of, none] = .ok (natD k) _ := var_eq rfl rfl
      refine wp_step fun K hK => ?_
      rw [wx, p_Bind, w_Fz]
      cases hr : aug (nbr R js) (mK R js k) 12 k [] with
      | mk r T2 =>
      rw [hr] at au em
      cases r with
      | none =>
        rw [callN4 v0 v2 v3 isF_tupN isF_dOw rfl au, wo_ok, p_Set]
        refine ⟨by simp, ?_⟩
        apply hK
        clear hK K
        show WP _ (dIf _ _ _ [some (tupN js), some (natD R), some (dOw false (mK R js k)), some (natD k), none, none, some (.a .non), none])
        refine if_no (notNon (var_eq rfl rfl)) ?_
        refine hJ _ ⟨some (natD k), some (.a .non), ?_, (fun d e => by cases e; rfl), (fun d e => by cases e; rfl)⟩
        rw [em]
      | some m2 =>
        rw [callN4 v0 v2 v3 isF_tupN isF_dOw rfl au, wo_ok, p_Set]
        refine ⟨by simp, ?_⟩
        apply hK
        clear hK K
        rw [frz_dOw]
        show WP _ (dIf _ _ _ [some (tupN js), some (natD R), some (dOw false (mK R js k)), some (natD k), none, none, some (dOw false m2), none])
        rw [p_If, notDct (var_eq rfl isF_dOw), wo_ok, if_pos rfl, p_Bind]
        refine wo_of (var_eq rfl isF_dOw) ?_
        rw [p_Set]
        refine ⟨by simp, ?_⟩
        refine hJ _ ⟨some (natD k), some (dOw false m2), ?_, (fun d e => by cases e; rfl), (fun d e => by cases e; exact isF_dOw)⟩
        rw [em]
        rfl
    · rintro ρ ⟨ox, of, rfl, f1, f2⟩
      rw [List.length_map, List.length_range]
      exact hK _ ⟨ox, of, rfl⟩
  · rintro ρ ⟨ox, of, rfl⟩
    generalize hm : mK R js js.length = m
    have ok := mK_ok (js := js) hR js.length
    rw [hm] at ok
    refine wp_step fun K hK => ?_
    rw [wx, p_Bind]
    refine w_lcN (l := js) (fun _ => .a (.int (-1))) (fun d h => by simp at h) (by simp) (src_lst (.inr rfl) (var_eq rfl isF_tupN) (by omega)) (by omega) (fun x hx => rfl) ?_
    rw [p_Set]
    refine ⟨by simp, ?_⟩
    apply hK
    clear hK K
    have e0 : D.lst true (js.map fun _ => .a (.int (-1))) = matD true .lst js.length m 0 := by
      rw [map_const_vec]; rfl
    rw [e0]
    show WP _ (dSeq _ _ [some (tupN js), some (natD R), some (dOw false m), ox, some (matD true .lst js.length m 0), none, of, none])
    refine wp_cutK (fun ρ => ∃ oy, ρ = [some (tupN js), some (natD R), some (dOw false m), ox, some (matD false .lst js.length m R), oy, of, none]) (fun K hK => ?_) ?_
    · rw [wx, p_Frz, p_For, src_rngN (n := R) (var_eq rfl rfl) (by omega), wo_ok]
      refine wp_forK (fun k ρ => ∃ oy, ρ = [some (tupN js), some (natD R), some (dOw false m), ox, some (matD true .lst js.length m k), oy, of, none]) ⟨none, rfl⟩ ?_ ?_
      · rintro k d ρ hd ⟨oy, rfl⟩ J hJ
        obtain ⟨hk, rfl⟩ := vec_get' (f := natD) hd
        rw [s_tg1]
        refine ⟨by simp, ?_⟩
        show WP _ (dIf _ _ _ [some (tupN js), some (natD R), some (dOw false m), ox, some (matD true .lst js.length m k), some (natD k), of, none])
        rw [p_If, din_eq (m := m) (o := false) (y := k) rfl (var_eq rfl rfl), wo_ok]
        cases hy : oAt m k with
        | none =>
          have e1 : oHas m k = false := by unfold oHas; rw [hy]; rfl
          rw [e1, if_neg (by decide)]
          refine hJ _ ⟨some (natD k), ?_⟩
          have : matD true .lst js.length m (k + 1) = matD true .lst js.length m k := by
            unfold matD
            congr 2
            funext x
            rw [mv, hy, if_neg (fun h => nomatch h)]
          rw [this]
        | some z =>
          have e1 : oHas m k = true := by unfold oHas; rw [hy]; rfl
          have hz := ok.low k z hy
          rw [e1, if_pos (by rfl), p_Bind]
          refine wo_of (var_eq rfl rfl) ?_
          rw [p_Sub]
          show WO _ _ _
          rw [dgetO_eq (m := m) (o := false) rfl (var_eq rfl rfl) hy, wo_ok]
          show SO (ixN (vec js.length _).length (z : Int)) _
          rw [vec_len, so_ixN hz]
          refine hJ _ ⟨some (natD k), ?_⟩
          have : matD true .lst js.length m (k + 1) = D.lst true ((vec js.length fun x => .a (.int (mv m k x))).set z (natD k)) := by
            rw [vec_set]
            unfold matD
            show D.n _ _ _ = D.n _ _ _
            congr 2
            funext x
            rw [mv, hy]
            by_cases e : z = x
            · subst e; rw [if_pos rfl, if_pos rfl]; rfl
            · rw [if_neg (fun h => e (by cases h; rfl)), if_neg (fun h => e h.symm)]
          rw [this]
          rfl
      · rintro ρ ⟨oy, rfl⟩
        rw [List.length_map, List.length_range]
        refine hK _ ⟨oy, ?_⟩
        rw [frzAt_some (i := 4) (d := matD true .lst js.length m R) rfl]
        have : frz (matD true .lst js.length m R) = matD false .lst js.length m R := by
          unfold matD
          show D.n _ false (frzL _) = _
          rw [frzL_isFL _ (isFL_vec fun _ _ => rfl)]
        rw [this]
        rfl
    · rintro ρ ⟨oy, rfl⟩
      rw [p_Bind, tupL_eq (i := 4) (o := true) (xs := vec js.length fun x => .a (.int (mv m R x))) rfl (isFL_vec fun _ _ => rfl), wo_ok]
      simp [ioOf, matD]
end DC
set_option pp.maxSteps 1500
namespace DC
open PySem L2 DL
def owM (m : Ow) (R : Nat) : Nat → Ow
  | 0 => []
  | k + 1 => if 0 ≤ mv m R k then oPut (owM m R k) (mv m R k).toNat k else owM m R k
theorem owM_len {m : Ow} {R : Nat} : ∀ k, (owM m R k).length ≤ k
  | 0 => Nat.le_refl _
  | k + 1 => by
    have ih := owM_len (m := m) (R := R) k
    rw [owM]
    split
    · have := oPut_len (m := owM m R k) (y := (mv m R k).toNat) (x := k)
      omega
    · omega
theorem owM_at {m : Ow} {R : Nat} (hi : OInj m) (hr : ∀ y z, oAt m y = some z → y < R) : ∀ {k y x : Nat}, oAt (owM m R k) y = some x ↔ x < k ∧ oAt m y = some x
  | 0, y, x => by
    constructor
    · intro h; cases h
    · intro h; exact absurd h.1 (Nat.not_lt_zero x)
  | k + 1, y, x => by
    rw [owM]
    rcases mv_cases hi (k := R) (x := k) with ⟨y0, h1, h2, h3⟩ | ⟨h1, h2⟩
    · rw [h3, if_pos (by omega), Int.toNat_natCast, oAt_put]
      by_cases e : y = y0
      · subst e
        rw [if_pos rfl]
        constructor
        · intro h; cases h; exact ⟨Nat.lt_succ_self _, h2⟩
        · rintro ⟨_, h⟩; rw [h2] at h; exact h
      · rw [if_neg e, owM_at hi hr]
        constructor
        · rintro ⟨a, b⟩; exact ⟨Nat.lt_succ_of_lt a, b⟩
        · rintro ⟨a, b⟩
          refine ⟨?_, b⟩
          rcases Nat.lt_succ_iff_lt_or_eq.mp a with q | q
          · exact q
          · subst q; exact absurd (hi y y0 x b h2) e
    · rw [h2, if_neg (by omega), owM_at hi hr]
      constructor
      · rintro ⟨a, b⟩; exact ⟨Nat.lt_succ_of_lt a, b⟩
      · rintro ⟨a, b⟩
        refine ⟨?_, b⟩
        rcases Nat.lt_succ_iff_lt_or_eq.mp a with q | q
        · exact q
        · subst q; exact absurd b (h1 y (hr y x b))
theorem owM_all {m : Ow} {R n : Nat} (hi : OInj m) (hr : ∀ y z, oAt m y = some z → y < R) (hl : OLow n m) {y : Nat} : oAt (owM m R n) y = oAt m y := by
  cases e : oAt m y with
  | some x => exact (owM_at hi hr).mpr ⟨hl y x e, e⟩
  | none =>
    cases e2 : oAt (owM m R n) y with
    | none => rfl
    | some x =>
      have := ((owM_at hi hr).mp e2).2
      rw [e] at this
      cases this
structure CovI (G : Nat → List Nat) (m : Ow) (n R : Nat) (B : Nat → Prop) (at' : Nat) (rs : List Nat) (F : Nat) : Prop where
  nd : rs.Nodup
  lt : ∀ x ∈ rs, x < n
  free : ∀ x, x < n → (∀ y, oAt m y ≠ some x) → x ∈ rs
  hit : ∀ x ∈ rs, (∀ y, oAt m y ≠ some x) ∨ ∃ y, F.testBit y = true ∧ oAt m y = some x
  done : ∀ i x, i < at' → rs[i]? = some x → ∀ y ∈ G x, F.testBit y = true
  own : ∀ y, F.testBit y = true → y < R ∧ ∃ x ∈ rs, oAt m y = some x
  bad : ∀ x ∈ rs, ∀ y ∈ G x, B y
theorem covI_0 {G : Nat → List Nat} {m : Ow} {n R : Nat} {B : Nat → Prop} (hi : OInj m) (hr : ∀ y z, oAt m y = some z → y < R) (hx : ∀ x, x < n → (∃ y, oAt m y = some x) ∨ ∀ y ∈ G x, B y) : CovI G m n R B 0 ((List.range n).filter fun x => decide (mv m R x < 0)) 0 := by
  have key : ∀ x, decide (mv m R x < 0) = true ↔ ∀ y, oAt m y ≠ some x := fun x => by
    rw [decide_eq_true_eq]
    rcases mv_cases hi (k := R) (x := x) with ⟨y0, h1, h2, h3⟩ | ⟨h1, h2⟩
    · constructor
      · intro h; omega
      · intro h; exact absurd h2 (h y0)
    · constructor
      · intro h y e; exact h1 y (hr y x e) e
      · intro h; omega
  refine ⟨(List.nodup_range).filter _, fun x h => List.mem_range.mp (List.mem_filter.mp h).1, fun x h1 h2 => List.mem_filter.mpr ⟨List.mem_range.mpr h1, (key x).mpr h2⟩, fun x h => .inl ((key x).mp (List.mem_filter.mp h).2), fun i x h => absurd h (Nat.not_lt_zero i), fun y h => by simp at h, fun x h => ?_⟩
  obtain ⟨a, b⟩ := List.mem_filter.mp h
  rcases hx x (List.mem_range.mp a) with ⟨y, q⟩ | q
  · exact absurd q ((key x).mp b y)
  · exact q
theorem covI_step {G : Nat → List Nat} {m : Ow} {n R : Nat} {B : Nat → Prop} {k y z F : Nat} {rs : List Nat} (hB : OClo G m B) (hl : OLow n m) (hk : k ≤ rs.length) (h : CovI G m n R B k rs F) (hy : y < R) (hz : oAt m y = some z) (hby : B y) : CovI G m n R B k (if z ∈ rs then rs else rs ++ [z]) (pt F y) := by
  have hBz : ∀ y' ∈ G z, B y' := by
    obtain ⟨z', e, q⟩ := hB y hby
    rw [hz] at e; cases e
    exact q
  have pb : ∀ u, (pt F y).testBit u = true ↔ F.testBit u = true ∨ u = y := fun u => by
    rw [pt_bit, Bool.or_eq_true, decide_eq_true_eq]
    exact ⟨fun q => q.imp id Eq.symm, fun q => q.imp id Eq.symm⟩
  by_cases e : z ∈ rs
  · rw [if_pos e]
    refine ⟨h.nd, h.lt, h.free, fun x hx => ?_, fun i x hi hx u hu => (pb u).mpr (.inl (h.done i x hi hx u hu)), fun u hu => ?_, h.bad⟩
    · exact (h.hit x hx).imp id fun ⟨u, a, b⟩ => ⟨u, (pb u).mpr (.inl a), b⟩
    · rcases (pb u).mp hu with q | q
      · exact h.own u q
      · subst q; exact ⟨hy, z, e, hz⟩
  · rw [if_neg e]
    have hm : ∀ x, x ∈ rs ++ [z] ↔ x ∈ rs ∨ x = z := fun x => by simp
    refine ⟨List.nodup_append.mpr ⟨h.nd, by simp, fun a ha b hb q => ?_⟩, fun x hx => ?_, fun x a b => (hm x).mpr (.inl (h.free x a b)), fun x hx => ?_, fun i x hi hx u hu => ?_, fun u hu => ?_, fun x hx u hu => ?_⟩
    · simp at hb; subst hb; subst q; exact e ha
    · rcases (hm x).mp hx with q | q
      · exact h.lt x q
      · subst q; exact hl y x hz
    · rcases (hm x).mp hx with q | q
      · exact (h.hit x q).imp id fun ⟨u, a, b⟩ => ⟨u, (pb u).mpr (.inl a), b⟩
      · subst q; exact .inr ⟨y, (pb y).mpr (.inr rfl), hz⟩
    · rw [List.getElem?_append_left (by omega)] at hx
      exact (pb u).mpr (.inl (h.done i x hi hx u hu))
    · rcases (pb u).mp hu with q | q
      · obtain ⟨a, x, b, c⟩ := h.own u q
        exact ⟨a, x, (hm x).mpr (.inl b), c⟩
      · subst q; exact ⟨hy, z, (hm z).mpr (.inr rfl), hz⟩
    · rcases (hm x).mp hx with q | q
      · exact h.bad x q u hu
      · subst q; exact hBz u hu
theorem bit_test {ρ : DL.Env} {f g : DL.Env → Out D} {F x : Nat} (hf : f ρ = .ok (natD F) ρ) (hg : g ρ = .ok (natD x) ρ) (hx : x ≤ 60) : dB (dOp2 gEq (dOp2 gAnd f (dOp2 gShl (dC (.int 1)) g)) (dC (.int 0))) ρ = .ok (!F.testBit x) ρ := by
  have h1 : dOp2 gAnd f (dOp2 gShl (dC (.int 1)) g) ρ = .ok (natD (F &&& 2 ^ x)) ρ := by
    refine op2E hf (op2E cE hg fun P => o_shl1 (show x ≤ 1000000 by omega)) fun P => ?_
    show SO (gAnd (.a (.int (F : Int))) (.a (.int ((2 ^ x : Nat) : Int)))) P = _
    rw [o_and, band_nat]
    rfl
  rw [eqN h1 (show dC (.int 0) ρ = .ok (natD 0) ρ from rfl)]
  congr 1
  rw [Bool.eq_iff_iff, decide_eq_true_eq]
  constructor
  · intro h
    have : (F &&& 2 ^ x).testBit x = false := by rw [h]; simp
    rw [Nat.testBit_and, Nat.testBit_two_pow_self, Bool.and_true] at this
    rw [this]; rfl
  · intro h
    apply Nat.eq_of_testBit_eq
    intro i
    rw [Nat.testBit_and, Nat.testBit_two_pow, Nat.zero_testBit]
    by_cases e : x = i
    · subst e
      have : F.testBit x = false := by simpa using h
      rw [this]; rfl
    · simp [e]
theorem mask_pt {n : Nat} {f : Nat → Bool} : mask (n + 1) f = if f n = true then pt (mask n f) n else mask n f := mask_succ
end DC
set_option pp.maxSteps 1500
namespace DC
open PySem L2 DL
theorem lixN {l : List Nat} {x v : Nat} {o : Bool} {P : D → Prop} (h : l[x]? = some v) : SO (gIx (.n .lst o (l.map natD)) (.a (.int (x : Int)))) P = P (natD v) := by
  unfold gIx
  rw [ixL (show (l.map natD)[x]? = some (natD v) by rw [List.getElem?_map, h]; rfl)]
  rfl
theorem mix {n x r : Nat} {m : Ow} {o : Bool} {f g : DL.Env → Out D} {ρ : DL.Env} (hf : f ρ = .ok (matD o .tup n m r) ρ) (hg : g ρ = .ok (natD x) ρ) (hx : x < n) : dOp2 gIx f g ρ = .ok (.a (.int (mv m r x))) ρ := op2E hf hg fun P => so_ixTF hx rfl
theorem lenM {n r : Nat} {m : Ow} {o : Bool} {P : D → Prop} : SO (gLen (matD o .tup n m r)) P = P (natD n) := by unfold matD; simp [natD]
theorem isF_matD {n r : Nat} {m : Ow} {k : Kd} : isF (matD false k n m r) = true := by
  unfold matD
  rw [isF_n, isFL_vec fun _ _ => rfl]
  rfl
theorem geE {f g : DL.Env → Out D} {ρ : DL.Env} {a b : Int} (hf : f ρ = .ok (.a (.int a)) ρ) (hg : g ρ = .ok (.a (.int b)) ρ) : dB (dOp2 gGe f g) ρ = .ok (decide (b ≤ a)) ρ := by
  apply out_eq
  rw [w_B, w_Op2, hf, wo_ok, hg, wo_ok]
  simp
theorem ltI {f g : DL.Env → Out D} {ρ : DL.Env} {a b : Int} (hf : f ρ = .ok (.a (.int a)) ρ) (hg : g ρ = .ok (.a (.int b)) ρ) : dB (dOp2 gLt f g) ρ = .ok (decide (a < b)) ρ := by
  apply out_eq
  rw [w_B, w_Op2, hf, wo_ok, hg, wo_ok]
  simp
theorem ninF {ρ : DL.Env} {f : DL.Env → Out D} {j x : Nat} {l : List Nat} (hi : f ρ = .ok (natD x) ρ) (hj : ρ[j]? = some (some (lstN false l))) : dB (dOp2 gNotIn f (dVar j)) ρ = .ok (!decide (x ∈ l)) ρ := by
  apply out_eq
  rw [w_B, w_Op2, hi, wo_ok]
  refine wo_of (var_eq hj (by unfold lstN; rw [isF_n, isFL_map fun _ => rfl]; rfl)) ?_
  show SO (gNotIn (.a (.int (x : Int))) (.n .lst false (l.map natD))) _
  rw [o_notinN (.inl rfl)]
  exact ⟨rfl, rfl⟩
theorem isF_lstF {l : List Nat} : isF (lstN false l) = true := by unfold lstN; rw [isF_n, isFL_map fun _ => rfl]; rfl
theorem dputO {Q : Ps} {i y x : Nat} {m : Ow} {ρ : DL.Env} {f : DL.Env → Out D} (h : ρ[i]? = some (some (dOw true m))) (hf : f ρ = .ok (natD y) ρ) (hc : m.length < 1000000) (k : Q.nx (ρ.set i (some (dOw true (oPut m y x))))) : WP Q (stDPut i f (natD x) ρ) := by
  rw [p_DPut, h, so_some, so_some]
  refine ⟨rfl, ?_⟩
  rw [hf, wo_ok]
  show SO (ρ[i]?) _
  rw [h, so_some, so_some]
  refine ⟨rfl, ⟨⟨rfl, isFL_map fun _ => rfl⟩, by rw [List.length_map]; exact hc⟩, ?_⟩
  rw [← put_ow] at k
  exact k
theorem aug_int {Q : Ps} {i : Nat} {h : Int → Int → Int} {f : DL.Env → Out D} {a b : Int} {ρ : DL.Env} (h1 : ρ[i]? = some (some (.a (.int a)))) (h2 : f ρ = .ok (.a (.int b)) ρ) (k : Q.nx (ρ.set i (some (.a (.int (h a b)))))) : WP Q (dAug i h f ρ) := by
  rw [p_Aug, h1, so_some, so_some, asI_int, h2, wo_ok, asI_int]
  exact ⟨(List.getElem?_eq_some_iff.mp h1).1, k⟩
structure Cov (G : Nat → List Nat) (m : Ow) (n R : Nat) (rs : List Nat) (F : Nat) : Prop where
  nd : rs.Nodup
  lt : ∀ x ∈ rs, x < n
  free : ∀ x, x < n → (∀ y, oAt m y ≠ some x) → x ∈ rs
  hit : ∀ x ∈ rs, (∀ y, oAt m y ≠ some x) ∨ ∃ y, F.testBit y = true ∧ oAt m y = some x
  done : ∀ x ∈ rs, ∀ y ∈ G x, F.testBit y = true
  own : ∀ y, F.testBit y = true → y < R ∧ ∃ x ∈ rs, oAt m y = some x
theorem least_cover_wf {R n : Nat} {js : List Nat} {m : Ow} (hR : R ≤ 10) (hj : ∀ j ∈ js, j < 2 ^ R) (hn : js.length = n) (hn2 : n ≤ 20) (ok : MOk (nbr R js) n m) :
    WF NoE (fun d io => io = none ∧ ∃ rs F, d = .n .tup false [natD (mask n fun x => !decide (x ∈ rs)), natD F] ∧ Cov (nbr R js) m n R rs F) (F_least_cover [tupN js, natD R, matD false .tup n m R]) := by
  have hr : ∀ y z, oAt m y = some z → y < R := fun y z e => nbr_lt z y (ok.edge y z e)
  obtain ⟨B, hB, hx⟩ := ok.clo
  unfold F_least_cover
  rw [wf_fn]
  unfold B_least_cover
  show WP _ (dSeq _ _ [some (tupN js), some (natD R), some (matD false .tup n m R), none, none, none, none, none, none, none])
  refine wp_step fun K hK => ?_
  rw [wx, p_Bind]
  refine wo_of (x := dOw true []) rfl ?_
  rw [p_Set]
  refine ⟨by simp, ?_⟩
  apply hK
  clear hK K
  show WP _ (dSeq _ _ [some (tupN js), some (natD R), some (matD false .tup n m R), some (dOw true []), none, none, none, none, none, none])
  refine wp_cutK (fun ρ => ∃ ox, ρ = [some (tupN js), some (natD R), some (matD false .tup n m R), some (dOw false (owM m R n)), ox, none, none, none, none, none] ∧ ∀ d, ox = some d → isF d = true) (fun K hK => ?_) ?_
  · rw [wx, p_Frz, p_For, src_rngN (n := n) (uE (var_eq rfl isF_matD) fun P => lenM) (by omega), wo_ok]
    refine wp_forK (fun k ρ => ∃ ox, ρ = [some (tupN js), some (natD R), some (matD false .tup n m R), some (dOw true (owM m R k)), ox, none, none, none, none, none] ∧ ∀ d, ox = some d → isF d = true) ⟨none, rfl, fun d e => nomatch e⟩ ?_ ?_
    · rintro k d ρ hd ⟨ox, rfl, fx⟩ J hJ
      obtain ⟨hk, rfl⟩ := vec_get' (f := natD) hd
      rw [s_tg1]
      refine ⟨by simp, ?_⟩
      show WP _ (dIf _ _ _ [some (tupN js), some (natD R), some (matD false .tup n m R), some (dOw true (owM m R k)), some (natD k), none, none, none, none, none])
      have mx : dOp2 gIx (dVar 2) (dVar 4) [some (tupN js), some (natD R), some (matD false .tup n m R), some (dOw true (owM m R k)), some (natD k), none, none, none, none, none] = .ok (.a (.int (mv m R k))) _ := mix (var_eq rfl isF_matD) (var_eq rfl rfl) hk
      have el := owM_len (m := m) (R := R) k
      rw [p_If, geE mx cE, wo_ok]
      have eo : owM m R (k + 1) = if 0 ≤ mv m R k then oPut (owM m R k) (mv m R k).toNat k else owM m R k := rfl
      by_cases e : 0 ≤ mv m R k
      · rw [if_pos e] at eo
        rw [decide_eq_true e, if_pos rfl, p_Bind]
        refine wo_of (var_eq rfl rfl) ?_
        have my : (.a (.int (mv m R k)) : D) = natD (mv m R k).toNat := by unfold natD; rw [Int.toNat_of_nonneg e]
        rw [my] at mx
        refine dputO (m := owM m R k) rfl mx (by omega) ?_
        rw [← eo]
        exact hJ _ ⟨some (natD k), rfl, fun d e => by cases e; rfl⟩
      · rw [if_neg e] at eo
        rw [decide_eq_false e, if_neg (by decide)]
        rw [← eo]
        exact hJ _ ⟨some (natD k), rfl, fun d e => by cases e; rfl⟩
    · rintro ρ ⟨ox, rfl, fx⟩
      rw [List.length_map, List.length_range]
      refine hK _ ⟨ox, ?_, fx⟩
      rw [frzAt_some (i := 3) (d := dOw true (owM m R n)) rfl, frz_dOw]
      rfl
  rintro ρ ⟨ox, rfl, fx⟩
  have oA : ∀ y, oAt (owM m R n) y = oAt m y := fun y => owM_all ok.inj hr ok.low
  generalize owM m R n = w at oA
  have hgx : ∀ x, x < n → (∃ y, oAt m y = some x) ∨ ∀ y ∈ nbr R js x, B y := hx
  refine wp_step fun K hK => ?_
  rw [wx, p_Frz, p_Bind]
  refine w_lcNF (l := List.range n) (fun x => decide (mv m R x < 0)) natD (fun d h => fx d (by simpa using h)) (by simp) (src_rngN (n := n) (uE (var_eq rfl isF_matD) fun P => lenM) (by omega)) (by rw [List.length_range]; omega)
    (fun x hx => ltI (mix (n := n) (m := m) (r := R) (o := false) (var_eq rfl isF_matD) (var_eq rfl rfl) (List.mem_range.mp hx)) cE) (fun x hx _ => var_eq rfl rfl) ?_
  rw [p_Set]
  refine ⟨by simp, ?_⟩
  apply hK
  clear hK K
  have c0 := covI_0 (G := nbr R js) ok.inj hr hgx
  generalize (List.range n).filter (fun x => decide (mv m R x < 0)) = rs0 at c0
  have hfr : frzAt 5 (([some (tupN js), some (natD R), some (matD false .tup n m R), some (dOw false w), ox, none, none, none, none, none] : DL.Env).set 5 (some (D.lst true (rs0.map natD)))) = [some (tupN js), some (natD R), some (matD false .tup n m R), some (dOw false w), ox, some (lstN false rs0), none, none, none, none] := by
    rw [frzAt_some (i := 5) (d := D.lst true (rs0.map natD)) rfl]
    show _ = ([some (tupN js), some (natD R), some (matD false .tup n m R), some (dOw false w), ox, some (lstN false rs0), none, none, none, none] : DL.Env)
    have : frz (D.lst true (rs0.map natD)) = lstN false rs0 := by
      show D.n _ false (frzL _) = _
      rw [frzL_isFL _ (isFL_map fun _ => rfl)]
      rfl
    rw [this]
    rfl
  rw [hfr]
  clear hfr
  refine wp_step fun K hK => ?_
  rw [wx, p_Bind, w_C, p_Set]
  refine ⟨by simp, ?_⟩
  apply hK
  clear hK K
  refine wp_step fun K hK => ?_
  rw [wx, p_Bind, w_C, p_Set]
  refine ⟨by simp, ?_⟩
  apply hK
  clear hK K
  show WP _ (dSeq _ _ [some (tupN js), some (natD R), some (matD false .tup n m R), some (dOw false w), ox, some (lstN false rs0), some (natD 0), some (natD 0), none, none])
  refine wp_cutK (fun ρ => ∃ (rs : List Nat) (F : Nat) (oy : Option D), ρ = [some (tupN js), some (natD R), some (matD false .tup n m R), some (dOw false w), ox, some (lstN false rs), some (natD F), some (natD rs.length), none, oy] ∧ CovI (nbr R js) m n R B rs.length rs F) (fun K hK => ?_) ?_
  · rw [wx]
    refine wp_while (fun c ρ => ∃ (k : Nat) (rs : List Nat) (F : Nat) (oy : Option D), c = n - k ∧ k ≤ rs.length ∧ ρ = [some (tupN js), some (natD R), some (matD false .tup n m R), some (dOw false w), ox, some (lstN false rs), some (natD F), some (natD k), none, oy] ∧ CovI (nbr R js) m n R B k rs F ∧ ∀ d, oy = some d → isF d = true) ?_ 100000 n _ (by omega) ⟨0, rs0, 0, none, rfl, by omega, rfl, c0, fun d e => nomatch e⟩
    rintro c _ ⟨k, rs, F, oy, rfl, hk, rfl, hc, fy⟩
    have lrs : rs.length ≤ n := nodup_lt hc.nd hc.lt
    have tt : dB (dOp2 gLt (dVar 7) (dU gLen (dVar 5))) [some (tupN js), some (natD R), some (matD false .tup n m R), some (dOw false w), ox, some (lstN false rs), some (natD F), some (natD k), none, oy] = .ok (decide (k < rs.length)) [some (tupN js), some (natD R), some (matD false .tup n m R), some (dOw false w), ox, some (lstN false rs), some (natD F), some (natD k), none, oy] := by
      have h1 := ltI (f := dVar 7) (g := dU gLen (dVar 5)) (a := (k : Int)) (b := (rs.length : Int)) (ρ := [some (tupN js), some (natD R), some (matD false .tup n m R), some (dOw false w), ox, some (lstN false rs), some (natD F), some (natD k), none, oy]) (var_eq rfl rfl) (uE (a := lstN false rs) (var_eq rfl isF_lstF) fun P => by unfold lstN; simp)
      rw [h1]
      congr 1
      rw [Bool.eq_iff_iff, decide_eq_true_eq, decide_eq_true_eq]
      omega
    rw [tt, wo_ok]
    by_cases hlt : k < rs.length
    · rw [decide_eq_true hlt, if_pos rfl]
      clear hK tt
      obtain ⟨x, hx⟩ : ∃ x, rs[k]? = some x := ⟨_, List.getElem?_eq_getElem hlt⟩
      have xm : x ∈ rs := List.mem_of_getElem? hx
      have xn := hc.lt x xm
      have hxj : js[x]? = some (js.getD x 0) := by
        rw [List.getD_eq_getElem?_getD, List.getElem?_eq_getElem (by omega)]
        rfl
      have hm2 := members_eq (m := js.getD x 0) (n := R) (hj _ (List.mem_of_getElem? hxj)) (by omega)
      have src : dIter (dCall 1 F_members (dACons (dOp2 gIx (dVar 0) (dOp2 gIx (dVar 5) (dVar 7))) dANil)) [some (tupN js), some (natD R), some (matD false .tup n m R), some (dOw false w), ox, some (lstN false rs), some (natD F), some (natD k), none, oy] = .ok ((nbr R js x).map natD) [some (tupN js), some (natD R), some (matD false .tup n m R), some (dOw false w), ox, some (lstN false rs), some (natD F), some (natD k), none, oy] := by
        refine src_lst (.inr rfl) (call1 (op2E (var_eq rfl isF_tupN) (op2E (var_eq rfl isF_lstF) (var_eq rfl rfl) fun P => lixN hx) fun P => tixN hxj) rfl hm2) ?_
        unfold nbr
        have := List.length_filter_le (js.getD x 0).testBit (List.range R)
        rw [List.length_range] at this
        omega
      refine wp_cutK (fun ρ => ∃ (rs' : List Nat) (F' : Nat) (oy : Option D), ρ = [some (tupN js), some (natD R), some (matD false .tup n m R), some (dOw false w), ox, some (lstN false rs'), some (natD F'), some (natD k), none, oy] ∧ (CovI (nbr R js) m n R B k rs' F' ∧ k < rs'.length ∧ rs'[k]? = some x ∧ (∀ d, oy = some d → isF d = true)) ∧ ∀ y ∈ nbr R js x, F'.testBit y = true) (fun K hK => ?_) ?_
      · rw [wx, p_For, src, wo_ok]
        refine wp_forK (fun i ρ => ∃ (rs' : List Nat) (F' : Nat) (oy : Option D), ρ = [some (tupN js), some (natD R), some (matD false .tup n m R), some (dOw false w), ox, some (lstN false rs'), some (natD F'), some (natD k), none, oy] ∧ (CovI (nbr R js) m n R B k rs' F' ∧ k < rs'.length ∧ rs'[k]? = some x ∧ (∀ d, oy = some d → isF d = true)) ∧ ∀ y ∈ (nbr R js x).take i, F'.testBit y = true) ⟨rs, F, oy, rfl, ⟨hc, hlt, hx, fy⟩, fun y h => by simp at h⟩ ?_ ?_
        · rintro i d _ hd ⟨rs', F', oy', rfl, ⟨hc', hlt', hx', fy'⟩, ht⟩ J hJ
          obtain ⟨y, hy, rfl⟩ := natD_get hd
          have ym : y ∈ nbr R js x := List.mem_of_getElem? hy
          have yR := nbr_lt x y ym
          have bY : B y := hc'.bad x (List.mem_of_getElem? hx') y ym
          have tk : ∀ u, u ∈ (nbr R js x).take (i + 1) → u ∈ (nbr R js x).take i ∨ u = y := fun u hu => by
            rw [List.take_add_one, hy] at hu
            simpa using hu
          rw [s_tg1]
          refine ⟨by simp, ?_⟩
          show WP _ (dIf _ _ _ [some (tupN js), some (natD R), some (matD false .tup n m R), some (dOw false w), ox, some (lstN false rs'), some (natD F'), some (natD k), none, some (natD y)])
          rw [p_If, bit_test (F := F') (x := y) (var_eq rfl rfl) (var_eq rfl rfl) (by omega), wo_ok]
          cases hb : F'.testBit y with
          | true =>
            rw [if_neg (by decide)]
            refine hJ _ ⟨rs', F', some (natD y), rfl, ⟨hc', hlt', hx', fun d e => by cases e; rfl⟩, fun u hu => ?_⟩
            rcases tk u hu with q | q
            · exact ht u q
            · subst q; exact hb
          | false =>
            rw [if_pos (by rfl)]
            obtain ⟨z, hz, _⟩ := hB y bY
            have st := covI_step hB ok.low (by omega) hc' yR hz bY
            have tb : ∀ u ∈ (nbr R js x).take (i + 1), (pt F' y).testBit u = true := fun u hu => by
              rw [pt_bit]
              rcases tk u hu with q | q
              · rw [ht u q]; rfl
              · subst q; simp
            refine wp_step fun K hK => ?_
            rw [wx, p_Bind]
            refine wo_of (gor_eq (F := F') (x := y) (by omega) rfl rfl) ?_
            rw [p_Set]
            refine ⟨by simp, ?_⟩
            apply hK
            clear hK K
            show WP _ (dIf _ _ _ [some (tupN js), some (natD R), some (matD false .tup n m R), some (dOw false w), ox, some (lstN false rs'), some (natD (pt F' y)), some (natD k), none, some (natD y)])
            have e1 : oHas w y = true := by unfold oHas; rw [oA, hz]; rfl
            have zz : oAt w y = some z := by rw [oA, hz]
            have dg : dDGet 3 (dVar 9) [some (tupN js), some (natD R), some (matD false .tup n m R), some (dOw false w), ox, some (lstN false rs'), some (natD (pt F' y)), some (natD k), none, some (natD y)] = .ok (natD z) _ := dgetO_eq (m := w) (o := false) rfl (var_eq rfl rfl) zz
            rw [p_If, w_AndT, din_eq (m := w) (o := false) (y := y) rfl (var_eq rfl rfl), wo_ok, e1, if_pos (by rfl), ninF dg rfl, wo_ok]
            by_cases zr : z ∈ rs'
            · rw [if_pos zr] at st
              rw [decide_eq_true zr, if_neg (by decide)]
              exact hJ _ ⟨rs', _, some (natD y), rfl, ⟨st, hlt', hx', fun d e => by cases e; rfl⟩, tb⟩
            · rw [if_neg zr] at st
              rw [decide_eq_false zr, if_pos (by rfl), p_Bind]
              have lr2 : rs'.length ≤ n := nodup_lt hc'.nd hc'.lt
              have ca : dOp2 gAdd (dVar 5) (dLst (dACons (dDGet 3 (dVar 9)) dANil)) [some (tupN js), some (natD R), some (matD false .tup n m R), some (dOw false w), ox, some (lstN false rs'), some (natD (pt F' y)), some (natD k), none, some (natD y)] = .ok (D.lst true (rs'.map natD ++ [natD z])) [some (tupN js), some (natD R), some (matD false .tup n m R), some (dOw false w), ox, some (lstN false rs'), some (natD (pt F' y)), some (natD k), none, some (natD y)] := by
                refine op2E (a := lstN false rs') (b := D.lst true [natD z]) (var_eq rfl isF_lstF) ?_ fun P => catL (isFL_map fun _ => rfl) rfl (by rw [List.length_map]; show rs'.length + 1 ≤ _; omega)
                apply out_eq
                rw [w_Lst, ag1 dg, wo_ok]
                exact ⟨by simp, rfl, rfl⟩
              have fz : frz (D.lst true (rs'.map natD ++ [natD z])) = lstN false (rs' ++ [z]) := by
                show D.n _ false (frzL _) = _
                have : rs'.map natD ++ [natD z] = (rs' ++ [z]).map natD := by simp
                rw [this, frzL_isFL _ (isFL_map fun _ => rfl)]
                rfl
              rw [w_Fz, ca, wo_ok, fz, p_Set]
              refine ⟨by simp, ?_⟩
              exact hJ _ ⟨rs' ++ [z], _, some (natD y), rfl, ⟨st, by rw [List.length_append]; omega, by rw [List.getElem?_append_left hlt']; exact hx', fun d e => by cases e; rfl⟩, tb⟩
        · rintro _ ⟨rs', F', oy', rfl, h1, ht⟩
          refine hK _ ⟨rs', F', oy', rfl, h1, fun y hy => ht y ?_⟩
          rw [List.length_map, List.take_length]
          exact hy
      · rintro _ ⟨rs', F', oy', rfl, ⟨hc', hlt', hx', fy'⟩, ht⟩
        refine aug_int (a := (k : Int)) (b := 1) rfl rfl ?_
        have lr2 : rs'.length ≤ n := nodup_lt hc'.nd hc'.lt
        refine ⟨n - (k + 1), by omega, k + 1, rs', F', oy', rfl, by omega, ?_, ⟨hc'.nd, hc'.lt, hc'.free, hc'.hit, fun i u hi hu y hy => ?_, hc'.own, hc'.bad⟩, fy'⟩
        · show _ = ([some (tupN js), some (natD R), some (matD false .tup n m R), some (dOw false w), ox, some (lstN false rs'), some (natD F'), some (natD (k + 1)), none, oy'] : DL.Env)
          rfl
        · rcases Nat.lt_succ_iff_lt_or_eq.mp hi with q | q
          · exact hc'.done i u q hu y hy
          · subst q
            rw [hx'] at hu
            cases hu
            exact ht y hy
    · have ek : k = rs.length := by omega
      subst ek
      rw [decide_eq_false hlt, if_neg (by decide)]
      exact hK _ ⟨rs, F, oy, rfl, hc⟩
  rintro _ ⟨rs, F, oy, rfl, hc⟩
  refine wp_step fun K hK => ?_
  rw [wx, p_Bind, w_C, p_Set]
  refine ⟨by simp, ?_⟩
  apply hK
  clear hK K
  show WP _ (dSeq _ _ [some (tupN js), some (natD R), some (matD false .tup n m R), some (dOw false w), ox, some (lstN false rs), some (natD F), some (natD rs.length), some (natD (mask 0 fun x => !decide (x ∈ rs))), oy])
  refine wp_cutK (fun ρ => ∃ ox, ρ = [some (tupN js), some (natD R), some (matD false .tup n m R), some (dOw false w), ox, some (lstN false rs), some (natD F), some (natD rs.length), some (natD (mask n fun x => !decide (x ∈ rs))), oy]) (fun K hK => ?_) ?_
  · rw [wx, p_For, src_rngN (n := n) (uE (var_eq rfl isF_matD) fun P => lenM) (by omega), wo_ok]
    refine wp_forK (fun k ρ => ∃ ox, ρ = [some (tupN js), some (natD R), some (matD false .tup n m R), some (dOw false w), ox, some (lstN false rs), some (natD F), some (natD rs.length), some (natD (mask k fun x => !decide (x ∈ rs))), oy]) ⟨ox, rfl⟩ ?_ ?_
    · rintro k d _ hd ⟨ox, rfl⟩ J hJ
      obtain ⟨hk, rfl⟩ := vec_get' (f := natD) hd
      rw [s_tg1]
      refine ⟨by simp, ?_⟩
      show WP _ (dIf _ _ _ [some (tupN js), some (natD R), some (matD false .tup n m R), some (dOw false w), some (natD k), some (lstN false rs), some (natD F), some (natD rs.length), some (natD (mask k fun x => !decide (x ∈ rs))), oy])
      rw [p_If, ninF (l := rs) (x := k) (var_eq rfl rfl) rfl, wo_ok]
      have em := mask_pt (n := k) (f := fun x => !decide (x ∈ rs))
      by_cases e : k ∈ rs
      · rw [decide_eq_true e, if_neg (by decide)]
        rw [decide_eq_true e, if_neg (by decide)] at em
        rw [← em]
        exact hJ _ ⟨some (natD k), rfl⟩
      · rw [decide_eq_false e, if_pos (by rfl), p_Bind]
        rw [decide_eq_false e, if_pos (by rfl)] at em
        refine wo_of (gor_eq (F := mask k fun x => !decide (x ∈ rs)) (x := k) (by omega) rfl rfl) ?_
        rw [p_Set]
        refine ⟨by simp, ?_⟩
        rw [← em]
        exact hJ _ ⟨some (natD k), rfl⟩
    · rintro _ ⟨ox, rfl⟩
      rw [List.length_map, List.length_range]
      exact hK _ ⟨ox, rfl⟩
  rintro _ ⟨ox, rfl⟩
  rw [p_Bind, w_Tup, ag2 (var_eq rfl rfl) (var_eq rfl rfl), wo_ok]
  refine ⟨by simp, rfl, rs, F, rfl, hc.nd, hc.lt, hc.free, hc.hit, fun x hx y hy => ?_, hc.own⟩
  obtain ⟨i, hi, e⟩ := List.mem_iff_getElem.mp hx
  exact hc.done i x hi (by rw [List.getElem?_eq_getElem hi, e]) y hy
end DC
namespace DC
open PySem L2 DL
theorem flen_split {α : Type} (p q : α → Bool) : ∀ l : List α, (l.filter p).length = (l.filter fun x => p x && q x).length + (l.filter fun x => p x && !q x).length
  | [] => rfl
  | a :: l => by
    have ih := flen_split p q l
    rw [List.filter_cons, List.filter_cons, List.filter_cons]
    cases p a <;> cases q a <;> simp <;> omega
theorem map_nodup {α β : Type} {f : α → β} : ∀ {l : List α}, l.Nodup → (∀ x ∈ l, ∀ y ∈ l, f x = f y → x = y) → (l.map f).Nodup
  | [], _, _ => List.nodup_nil
  | a :: l, h, hi => by
    have h' := List.nodup_cons.mp h
    rw [List.map_cons]
    refine List.nodup_cons.mpr ⟨fun m => ?_, map_nodup h'.2 fun x hx y hy => hi x (List.mem_cons_of_mem _ hx) y (List.mem_cons_of_mem _ hy)⟩
    obtain ⟨b, hb, e⟩ := List.mem_map.mp m
    have := hi a List.mem_cons_self b (List.mem_cons_of_mem _ hb) e.symm
    subst this
    exact h'.1 hb
def hasO (m : Ow) (R x : Nat) : Bool := decide (0 ≤ mv m R x)
theorem hasO_iff {m : Ow} {R : Nat} (hi : OInj m) (hr : ∀ y z, oAt m y = some z → y < R) {x : Nat} : hasO m R x = true ↔ ∃ y, oAt m y = some x := by
  unfold hasO
  rw [decide_eq_true_eq]
  rcases mv_cases hi (k := R) (x := x) with ⟨y0, h1, h2, h3⟩ | ⟨h1, h2⟩
  · exact ⟨fun _ => ⟨y0, h2⟩, fun _ => by omega⟩
  · exact ⟨fun h => by omega, fun ⟨y, e⟩ => absurd e (h1 y (hr y x e))⟩
theorem mv_of {m : Ow} {R : Nat} (hi : OInj m) (hr : ∀ y z, oAt m y = some z → y < R) {x y : Nat} (h : oAt m y = some x) : mv m R x = (y : Int) := by
  rcases mv_cases hi (k := R) (x := x) with ⟨y0, h1, h2, h3⟩ | ⟨h1, h2⟩
  · rw [h3, hi y0 y x h2 h]
  · exact absurd h (h1 y (hr y x h))
theorem mv_neg {m : Ow} {R : Nat} (hi : OInj m) {x : Nat} (h : ¬ 0 ≤ mv m R x) : mv m R x = -1 := by
  rcases mv_cases hi (k := R) (x := x) with ⟨y0, h1, h2, h3⟩ | ⟨h1, h2⟩
  · omega
  · exact h2
theorem mv_pos {m : Ow} {R : Nat} (hi : OInj m) {x : Nat} (h : 0 ≤ mv m R x) : ∃ y, y < R ∧ oAt m y = some x ∧ mv m R x = (y : Int) := by
  rcases mv_cases hi (k := R) (x := x) with q | ⟨h1, h2⟩
  · exact q
  · omega
theorem konig {G : Nat → List Nat} {m : Ow} {n R F : Nat} {rs : List Nat} (hi : OInj m) (hr : ∀ y z, oAt m y = some z → y < R) (hl : OLow n m) (c : Cov G m n R rs F) :
    ((List.range n).filter fun x => !decide (x ∈ rs)).length + ((List.range R).filter F.testBit).length = ((List.range n).filter (hasO m R)).length := by
  have e0 := flen_split (hasO m R) (fun x => decide (x ∈ rs)) (List.range n)
  have e1 : (List.range n).filter (fun x => hasO m R x && !decide (x ∈ rs)) = (List.range n).filter fun x => !decide (x ∈ rs) := by
    refine List.filter_congr fun x hx => ?_
    by_cases e : x ∈ rs
    · rw [decide_eq_true e]; simp
    · rw [decide_eq_false e]
      have : hasO m R x = true := by
        cases q : hasO m R x with
        | true => rfl
        | false =>
          refine absurd (c.free x (List.mem_range.mp hx) fun y hy => ?_) e
          rw [(hasO_iff hi hr).mpr ⟨y, hy⟩] at q
          cases q
      rw [this]; rfl
  rw [e1] at e0
  have own : ∀ y, F.testBit y = true → ∃ x ∈ rs, oAt m y = some x := fun y hy => (c.own y hy).2
  have e2 : ((List.range R).filter F.testBit).length = ((List.range n).filter fun x => hasO m R x && decide (x ∈ rs)).length := by
    have lm : (((List.range R).filter F.testBit).map fun y => (oAt m y).getD 0).length = ((List.range R).filter F.testBit).length := List.length_map _
    have mf : ∀ y, y ∈ (List.range R).filter F.testBit ↔ y < R ∧ F.testBit y = true := fun y => by rw [List.mem_filter, List.mem_range]
    have nd1 : (((List.range R).filter F.testBit).map fun y => (oAt m y).getD 0).Nodup := by
      refine map_nodup (List.nodup_range.filter _) fun y hy y' hy' e => ?_
      obtain ⟨x, hx, q⟩ := own y ((mf y).mp hy).2
      obtain ⟨x', hx', q'⟩ := own y' ((mf y').mp hy').2
      rw [q, q'] at e
      have e : x = x' := e
      subst e
      exact hi y y' x q q'
    have nd2 : ((List.range n).filter fun x => hasO m R x && decide (x ∈ rs)).Nodup := List.nodup_range.filter _
    apply Nat.le_antisymm
    · rw [← lm]
      refine nodup_sub nd1 fun x hx => ?_
      obtain ⟨y, hy, e⟩ := List.mem_map.mp hx
      obtain ⟨x', hx', q⟩ := own y ((mf y).mp hy).2
      rw [q] at e
      have e : x' = x := e
      subst e
      exact List.mem_filter.mpr ⟨List.mem_range.mpr (c.lt x' hx'), by rw [(hasO_iff hi hr).mpr ⟨y, q⟩, decide_eq_true hx']; rfl⟩
    · rw [← lm]
      refine nodup_sub nd2 fun x hx => ?_
      obtain ⟨h1, h2⟩ := List.mem_filter.mp hx
      rw [Bool.and_eq_true, decide_eq_true_eq] at h2
      obtain ⟨y0, q0⟩ := (hasO_iff hi hr).mp h2.1
      rcases c.hit x h2.2 with q | ⟨y, q1, q2⟩
      · exact absurd q0 (q y0)
      · exact List.mem_map.mpr ⟨y, (mf y).mpr ⟨(c.own y q1).1, q1⟩, by rw [q2]; rfl⟩
  omega
end DC
set_option pp.maxSteps 1500
namespace DC
open PySem L2 DL
def oD : Option Nat → D
  | none => .a (.int (-1))
  | some y => natD y
theorem isF_oD {o : Option Nat} : isF (oD o) = true := by cases o <;> rfl
def optT (q : List (Option Nat)) : D := .n .tup false (q.map oD)
theorem isF_optT {q : List (Option Nat)} : isF (optT q) = true := by unfold optT; rw [isF_n, isFL_map fun _ => isF_oD]; rfl
def chkM : List Nat → List (Option Nat) → List Nat → Bool
  | _ :: js, none :: q, U => chkM js q U
  | j :: js, some y :: q, U => if j.testBit y = false ∨ y ∈ U then false else chkM js q (U ++ [y])
  | _, _, _ => true
theorem lenO {q : List (Option Nat)} {P : D → Prop} : SO (gLen (optT q)) P = P (natD q.length) := by unfold optT; simp [natD]
theorem isO {q : List (Option Nat)} {P : D → Prop} : SO (gIsi "tuple" (optT q)) P = P (.a (.bl true)) := by
  unfold optT
  have hf : isFL (q.map oD) = true := isFL_map fun _ => isF_oD
  rw [o_isi (t := "tuple") rfl]; simp [isiT, hf]
theorem oix {q : List (Option Nat)} {x : Nat} {v : Option Nat} {P : D → Prop} (h : q[x]? = some v) : SO (gIx (optT q) (.a (.int (x : Int)))) P = P (oD v) := by
  unfold gIx optT
  rw [ixT (show (q.map oD)[x]? = some (oD v) by rw [List.getElem?_map, h]; rfl)]
  dsimp only
  rw [if_pos isF_oD]
  rfl
theorem inPk {ρ : DL.Env} {i j x : Nat} {o : Bool} {l : List Nat} (hi : ρ[i]? = some (some (natD x))) (hj : ρ[j]? = some (some (.n .lst o (l.map natD)))) : dB (dOp2 gIn (dVar i) (dPeek j)) ρ = .ok (decide (x ∈ l)) ρ := by
  apply out_eq
  rw [w_B, w_Op2]
  refine wo_of (var_eq hi rfl) ?_
  rw [w_Peek, hj]
  simp
  show SO (gIn (.a (.int (x : Int))) (.n .lst o (l.map natD))) _
  rw [o_inN (.inl rfl)]
  rfl
theorem bE2 {f : DL.Env → Out D} {ρ : DL.Env} {b : Bool} (h : f ρ = .ok (.a (.bl b)) ρ) : dB f ρ = .ok b ρ := by
  apply out_eq
  rw [w_B, h, wo_ok]
  exact ⟨rfl, rfl⟩
theorem orEE {f g : DL.Env → Out Bool} {ρ : DL.Env} {a b : Bool} (hf : f ρ = .ok a ρ) (hg : a = false → g ρ = .ok b ρ) (hb : a = true → b = true) : dOrT f g ρ = .ok b ρ := by
  apply out_eq
  rw [w_OrT, hf, wo_ok]
  cases a with
  | true => rw [if_pos rfl]; exact ⟨(hb rfl).symm, rfl⟩
  | false => rw [if_neg (by decide), hg rfl, wo_ok]; exact ⟨rfl, rfl⟩
theorem bit_cell {ρ : DL.Env} {f g : DL.Env → Out D} {j y : Nat} (hf : f ρ = .ok (natD j) ρ) (hg : g ρ = .ok (natD y) ρ) : dB (dOp2 gEq (dOp2 gAnd (dOp2 gShr f g) (dC (.int 1))) (dC (.int 0))) ρ = .ok (!j.testBit y) ρ := by
  have h1 : dOp2 gAnd (dOp2 gShr f g) (dC (.int 1)) ρ = .ok (natD (j / 2 ^ y % 2)) ρ := by
    refine op2E (op2E (d := natD (j / 2 ^ y)) hf hg fun P => ?_) cE fun P => ?_
    · show SO (gShr (.a (.int (j : Int))) (.a (.int (y : Int)))) P = _
      rw [o_shr]
      have : ((j : Int) / 2 ^ ((y : Int)).toNat) = ((j / 2 ^ y : Nat) : Int) := by simp
      rw [this]
      simp [natD]
    · show SO (gAnd (.a (.int ((j / 2 ^ y : Nat) : Int))) (.a (.int 1))) P = _
      rw [o_and, PyProof.Rows.bitAnd_m1]
      have : ((j / 2 ^ y : Nat) : Int) % 2 = ((j / 2 ^ y % 2 : Nat) : Int) := by omega
      rw [this]
      rfl
  rw [eqN h1 (show dC (.int 0) ρ = .ok (natD 0) ρ from rfl)]
  congr 1
  rw [Nat.testBit_eq_decide_div_mod_eq, Bool.eq_iff_iff]
  simp
theorem is_matching_eq {js : List Nat} {q : List (Option Nat)} (hn : js.length ≤ 100) (hq : q.length ≤ 100) : F_is_matching [tupN js, optT q] = .rt (.a (.bl (decide (q.length = js.length) && chkM js q []))) none := by
  obtain ⟨bb, hbb⟩ : ∃ bb : Bool, bb = (decide (q.length = js.length) && chkM js q []) := ⟨_, rfl⟩
  rw [← hbb]
  apply wf_eq
  unfold F_is_matching
  rw [wf_fn]
  unfold B_is_matching
  show WP _ (dSeq _ _ [some (tupN js), some (optT q), none, none, none])
  refine wp_step fun K hK => ?_
  rw [wx, p_Bind]
  refine wo_of (x := lstN true []) (out_eq (by rw [w_Lst, w_ANil]; exact ⟨by simp, rfl, rfl⟩)) ?_
  rw [p_Set]
  refine ⟨by simp, ?_⟩
  apply hK
  clear hK K
  show WP _ (dSeq _ _ [some (tupN js), some (optT q), some (lstN true []), none, none])
  have t1 : dOrT (dNotT (dB (dU (gIsi "tuple") (dVar 1)))) (dB (dOp2 gNe (dU gLen (dVar 1)) (dU gLen (dVar 0)))) [some (tupN js), some (optT q), some (lstN true []), none, none] = .ok (!decide (q.length = js.length)) [some (tupN js), some (optT q), some (lstN true []), none, none] :=
    orE (notE (bE2 (uE (var_eq rfl isF_optT) fun P => isO))) fun _ => neN (uE (var_eq rfl isF_optT) fun P => lenO) (uE (var_eq rfl isF_tupN) fun P => tLen)
  refine wp_step fun K hK => ?_
  rw [wx, p_If, t1, wo_ok]
  by_cases hl : q.length = js.length
  · rw [decide_eq_true hl, if_neg (by decide)]
    apply hK
    clear hK K t1
    rw [decide_eq_true hl, Bool.true_and] at hbb
    refine wp_cutK (fun ρ => chkM js q [] = true ∧ ∃ x, ρ = [some (tupN js), some (optT q), x, none, none] ∨ True) (fun K hK => ?_) ?_
    · rw [wx, p_Frz, p_For, src_rngN (n := q.length) (uE (var_eq rfl isF_optT) fun P => lenO) (by omega), wo_ok]
      refine wp_forK (fun k ρ => ∃ (U : List Nat) (ox oy : Option D), ρ = [some (tupN js), some (optT q), some (lstN true U), ox, oy] ∧ chkM js q [] = chkM (js.drop k) (q.drop k) U ∧ U.length ≤ k) ⟨[], none, none, rfl, rfl, Nat.le_refl _⟩ ?_ ?_
      · rintro k d _ hd ⟨U, ox, oy, rfl, hU, lU⟩ J hJ
        obtain ⟨hk, rfl⟩ := vec_get' (f := natD) hd
        obtain ⟨o, ho⟩ : ∃ o, q[k]? = some o := ⟨_, List.getElem?_eq_getElem hk⟩
        obtain ⟨j, hj⟩ : ∃ j, js[k]? = some j := ⟨_, List.getElem?_eq_getElem (by omega)⟩
        have d1 : q.drop k = o :: q.drop (k + 1) := by
          rw [List.drop_eq_getElem_cons hk]
          rw [List.getElem?_eq_getElem hk] at ho
          cases ho; rfl
        have d2 : js.drop k = j :: js.drop (k + 1) := by
          rw [List.drop_eq_getElem_cons (by omega)]
          rw [List.getElem?_eq_getElem (by omega)] at hj
          cases hj; rfl
        rw [d1, d2] at hU
        rw [s_tg1]
        refine ⟨by simp, ?_⟩
        show WP _ (dSeq _ _ [some (tupN js), some (optT q), some (lstN true U), some (natD k), oy])
        refine wp_step fun K hK => ?_
        rw [wx, p_Bind]
        refine wo_of (op2E (d := oD o) (var_eq rfl isF_optT) (var_eq rfl rfl) fun P => oix ho) ?_
        rw [p_Set]
        refine ⟨by simp, ?_⟩
        apply hK
        clear hK K
        show WP _ (dSeq _ _ [some (tupN js), some (optT q), some (lstN true U), some (natD k), some (oD o)])
        cases o with
        | none =>
          have t2 : dOrT (dNotT (dB (dCall 1 F_is_integer (dACons (dVar 4) dANil)))) (dB (dOp2 gLt (dVar 4) (dU gNeg (dC (.int 1))))) [some (tupN js), some (optT q), some (lstN true U), some (natD k), some (oD none)] = .ok false [some (tupN js), some (optT q), some (lstN true U), some (natD k), some (oD none)] :=
            or_no (notE (bE2 (call1 (var_eq rfl rfl) rfl (isint_eq (-1))))) (ltI (a := -1) (b := -1) (var_eq rfl rfl) rfl)
          refine wp_step fun K hK => ?_
          rw [wx, p_If, t2, wo_ok, if_neg (by decide)]
          apply hK
          clear hK K t2
          refine if_no (geE (a := -1) (b := 0) (var_eq rfl rfl) cE) ?_
          exact hJ _ ⟨U, _, _, rfl, hU, by omega⟩
        | some y =>
          have t2 : dOrT (dNotT (dB (dCall 1 F_is_integer (dACons (dVar 4) dANil)))) (dB (dOp2 gLt (dVar 4) (dU gNeg (dC (.int 1))))) [some (tupN js), some (optT q), some (lstN true U), some (natD k), some (oD (some y))] = .ok false [some (tupN js), some (optT q), some (lstN true U), some (natD k), some (oD (some y))] :=
            or_no (notE (bE2 (call1 (var_eq rfl rfl) rfl (isint_eq (y : Int))))) (by
              have l1 := ltI (f := dVar 4) (g := dU gNeg (dC (.int 1))) (ρ := [some (tupN js), some (optT q), some (lstN true U), some (natD k), some (oD (some y))]) (a := (y : Int)) (b := -1) (var_eq rfl rfl) rfl
              rw [l1, decide_eq_false (by omega)])
          refine wp_step fun K hK => ?_
          rw [wx, p_If, t2, wo_ok, if_neg (by decide)]
          apply hK
          clear hK K t2
          have t3 : dB (dOp2 gGe (dVar 4) (dC (.int 0))) [some (tupN js), some (optT q), some (lstN true U), some (natD k), some (oD (some y))] = .ok true [some (tupN js), some (optT q), some (lstN true U), some (natD k), some (oD (some y))] := by
            have l1 := geE (f := dVar 4) (g := dC (.int 0)) (ρ := [some (tupN js), some (optT q), some (lstN true U), some (natD k), some (oD (some y))]) (a := (y : Int)) (b := 0) (var_eq rfl rfl) cE
            rw [l1, decide_eq_true (by omega)]
          rw [p_If, t3, wo_ok, if_pos rfl]
          clear t3
          have t4 : dOrT (dB (dOp2 gEq (dOp2 gAnd (dOp2 gShr (dOp2 gIx (dVar 0) (dVar 3)) (dVar 4)) (dC (.int 1))) (dC (.int 0)))) (dB (dOp2 gIn (dVar 4) (dPeek 2))) [some (tupN js), some (optT q), some (lstN true U), some (natD k), some (oD (some y))] = .ok (decide (j.testBit y = false ∨ y ∈ U)) [some (tupN js), some (optT q), some (lstN true U), some (natD k), some (oD (some y))] := by
            refine orEE (bit_cell (j := j) (y := y) (op2E (var_eq rfl isF_tupN) (var_eq rfl rfl) fun P => tixN hj) (var_eq rfl rfl)) (fun e => ?_) fun e => ?_
            · rw [inPk (x := y) (o := true) (l := U) rfl rfl]
              congr 1
              have : ¬ j.testBit y = false := by simpa using e
              simp [this]
            · have : j.testBit y = false := by simpa using e
              simp [this]
          refine wp_step fun K hK => ?_
          rw [wx, p_If, t4, wo_ok]
          rw [chkM] at hU
          by_cases hc : j.testBit y = false ∨ y ∈ U
          · rw [if_pos hc] at hU
            rw [hU] at hbb
            rw [decide_eq_true hc, if_pos rfl, p_Bind, w_C, hbb]
            exact ⟨rfl, rfl⟩
          · rw [if_neg hc] at hU
            rw [decide_eq_false hc, if_neg (by decide)]
            apply hK
            clear hK K t4
            rw [p_Has]
            refine ⟨True.intro, ?_⟩
            rw [p_Bind]
            refine wo_of (x := natD y) (var_eq rfl rfl) ?_
            rw [p_App]
            refine ⟨by rw [List.length_map]; show U.length < 1000000; omega, ?_⟩
            have eT : D.lst true (U.map natD ++ [natD y]) = lstN true (U ++ [y]) := by unfold lstN; rw [List.map_append]; rfl
            rw [eT]
            exact hJ _ ⟨U ++ [y], _, _, rfl, hU, by rw [List.length_append]; simp; omega⟩
      · rintro _ ⟨U, ox, oy, rfl, hU, lU⟩
        rw [List.length_map, List.length_range, List.drop_length] at hU
        refine hK _ ⟨?_, none, .inr True.intro⟩
        rw [hU]
        cases js.drop q.length <;> rfl
    · rintro ρ ⟨h, _⟩
      rw [h] at hbb
      rw [p_Bind, w_C, hbb]
      exact ⟨rfl, rfl⟩
  · rw [decide_eq_false hl, Bool.false_and] at hbb
    rw [decide_eq_false hl, if_pos (by rfl), p_Bind, w_C, hbb]
    exact ⟨rfl, rfl⟩
theorem gtI {f g : DL.Env → Out D} {ρ : DL.Env} {a b : Nat} (hf : f ρ = .ok (natD a) ρ) (hg : g ρ = .ok (natD b) ρ) : dB (dOp2 gGt f g) ρ = .ok (decide (b < a)) ρ := by
  apply out_eq
  rw [w_B, w_Op2, hf, wo_ok, hg, wo_ok]
  simp [natD]
theorem neI {f g : DL.Env → Out D} {ρ : DL.Env} {a b : Int} (hf : f ρ = .ok (.a (.int a)) ρ) (hg : g ρ = .ok (.a (.int b)) ρ) : dB (dOp2 gNe f g) ρ = .ok (!decide (a = b)) ρ := by
  apply out_eq
  rw [w_B, w_Op2, hf, wo_ok, hg, wo_ok]
  simp
theorem inv_and : ((List.range 32).all fun j => (List.range 32).all fun F => decide (Builtin.bitAnd (j : Int) (Builtin.bitNot (F : Int)) = 0) == (List.range 5).all fun i => !j.testBit i || F.testBit i) = true := by decide +kernel
theorem inv_eq {j F : Nat} (hj : j < 32) (hF : F < 32) : decide (Builtin.bitAnd (j : Int) (Builtin.bitNot (F : Int)) = 0) = (List.range 5).all fun i => !j.testBit i || F.testBit i := by
  have h := List.all_eq_true.mp inv_and j (List.mem_range.mpr hj)
  exact eq_of_beq (List.all_eq_true.mp h F (List.mem_range.mpr hF))
def chkC (js : List Nat) (L F : Nat) : Bool := (List.range js.length).all fun x => L.testBit x || (List.range 5).all fun i => !(js.getD x 0).testBit i || F.testBit i
theorem is_cover_eq {js : List Nat} {L F : Nat} (hn : js.length ≤ 60) (hj : ∀ j ∈ js, j < 32) (hL : L < 2 ^ js.length) (hF : F < 32) : F_is_cover [tupN js, .n .tup false [natD L, natD F]] = .rt (.a (.bl (chkC js L F))) none := by
  obtain ⟨bb, hbb⟩ : ∃ bb : Bool, bb = chkC js L F := ⟨_, rfl⟩
  rw [← hbb]
  apply wf_eq
  unfold F_is_cover
  rw [wf_fn]
  unfold B_is_cover
  show WP _ (dSeq _ _ [some (tupN js), some (.n .tup false [natD L, natD F]), none, none, none])
  refine wp_step fun K hK => ?_
  rw [wx]
  refine if_no (or_no (notE (b := true) (bE2 (uE (a := .n .tup false [natD L, natD F]) (var_eq rfl rfl) fun P => by rw [o_isi (t := "tuple") rfl]; rfl))) ?_) ?_
  · have h1 := neN (f := dU gLen (dVar 1)) (g := dC (.int 2)) (a := 2) (b := 2) (ρ := [some (tupN js), some (.n .tup false [natD L, natD F]), none, none, none]) (uE (a := .n .tup false [natD L, natD F]) (var_eq rfl rfl) fun P => by simp [natD]) rfl
    exact h1
  apply hK
  clear hK K
  refine wp_step fun K hK => ?_
  rw [wx, p_Bind, w_Fz]
  refine wo_of (x := .n .tup false [natD L, natD F]) (var_eq rfl rfl) ?_
  rw [p_Tg]
  simp
  apply hK
  clear hK K
  show WP _ (dSeq _ _ [some (tupN js), some (.n .tup false [natD L, natD F]), some (natD L), some (natD F), none])
  have hs := isset_eq (b := L) (n := js.length) hL (by omega)
  refine wp_step fun K hK => ?_
  rw [wx]
  refine if_no (or_no (notE (b := true) (bE2 (call2 (var_eq rfl rfl) (uE (var_eq rfl isF_tupN) fun P => tLen) rfl rfl hs))) (or_no (notE (b := true) (bE2 (call1 (var_eq rfl rfl) rfl (isint_eq (F : Int))))) ?_)) ?_
  · have h1 := ltI (f := dVar 3) (g := dC (.int 0)) (a := (F : Int)) (b := 0) (ρ := [some (tupN js), some (.n .tup false [natD L, natD F]), some (natD L), some (natD F), none]) (var_eq rfl rfl) cE
    rw [h1, decide_eq_false (by omega)]
  apply hK
  clear hK K
  refine wp_cutK (fun ρ => chkC js L F = true) (fun K hK => ?_) ?_
  · rw [wx, p_For, src_rngN (n := js.length) (uE (var_eq rfl isF_tupN) fun P => tLen) (by omega), wo_ok]
    refine wp_forK (fun k ρ => (∃ ox, ρ = [some (tupN js), some (.n .tup false [natD L, natD F]), some (natD L), some (natD F), ox]) ∧ ∀ x, x < k → (L.testBit x || (List.range 5).all fun i => !(js.getD x 0).testBit i || F.testBit i) = true) ⟨⟨none, rfl⟩, fun x h => absurd h (Nat.not_lt_zero x)⟩ ?_ ?_
    · rintro k d _ hd ⟨⟨ox, rfl⟩, hp⟩ J hJ
      obtain ⟨hk, rfl⟩ := vec_get' (f := natD) hd
      have hxj : js[k]? = some (js.getD k 0) := by
        rw [List.getD_eq_getElem?_getD, List.getElem?_eq_getElem hk]
        rfl
      rw [s_tg1]
      refine ⟨by simp, ?_⟩
      show WP _ (dIf _ _ _ [some (tupN js), some (.n .tup false [natD L, natD F]), some (natD L), some (natD F), some (natD k)])
      have t1 : dB (dOp2 gNe (dOp2 gAnd (dOp2 gIx (dVar 0) (dVar 4)) (dU gInv (dVar 3))) (dC (.int 0))) [some (tupN js), some (.n .tup false [natD L, natD F]), some (natD L), some (natD F), some (natD k)] = .ok (!(List.range 5).all fun i => !(js.getD k 0).testBit i || F.testBit i) [some (tupN js), some (.n .tup false [natD L, natD F]), some (natD L), some (natD F), some (natD k)] := by
        apply out_eq
        rw [w_B, w_Op2]
        refine wo_of (op2E (d := .a (.int (Builtin.bitAnd ((js.getD k 0 : Nat) : Int) (Builtin.bitNot (F : Int))))) (op2E (var_eq rfl isF_tupN) (var_eq rfl rfl) fun P => tixN hxj) (uE (d := .a (.int (Builtin.bitNot (F : Int)))) (var_eq rfl rfl) fun P => rfl) fun P => rfl) ?_
        rw [w_C, ← inv_eq (hj _ (List.mem_of_getElem? hxj)) hF]
        simp
      rw [p_If, w_AndT, bit_test (F := L) (x := k) (var_eq rfl rfl) (var_eq rfl rfl) (by omega), wo_ok]
      have fin : ∀ b : Bool, (L.testBit k || b) = true → ∀ x, x < k + 1 → b = ((List.range 5).all fun i => !(js.getD k 0).testBit i || F.testBit i) → (L.testBit x || (List.range 5).all fun i => !(js.getD x 0).testBit i || F.testBit i) = true := fun b h x hx e => by
        rcases Nat.lt_succ_iff_lt_or_eq.mp hx with q | q
        · exact hp x q
        · subst q; rw [← e]; exact h
      cases hb : L.testBit k with
      | true =>
        rw [if_neg (by decide), if_neg (by decide)]
        exact hJ _ ⟨⟨_, rfl⟩, fun x hx => fin _ (by rw [hb]; rfl) x hx rfl⟩
      | false =>
        rw [if_pos (by rfl), t1, wo_ok]
        cases ha : (List.range 5).all fun i => !(js.getD k 0).testBit i || F.testBit i with
        | true =>
          rw [if_neg (by decide)]
          exact hJ _ ⟨⟨_, rfl⟩, fun x hx => fin true (by simp) x hx ha.symm⟩
        | false =>
          rw [if_pos (by rfl), p_Bind, w_C]
          have : chkC js L F = false := by
            unfold chkC
            rw [List.all_eq_false]
            exact ⟨k, List.mem_range.mpr hk, by rw [hb, ha]; decide⟩
          rw [this] at hbb
          rw [hbb]
          exact ⟨rfl, rfl⟩
    · rintro _ ⟨_, hp⟩
      rw [List.length_map, List.length_range] at hp
      refine hK _ ?_
      unfold chkC
      rw [List.all_eq_true]
      exact fun x hx => hp x (List.mem_range.mp hx)
  · intro ρ h
    rw [h] at hbb
    rw [p_Bind, w_C, hbb]
    exact ⟨rfl, rfl⟩
theorem pw6 {y : Nat} (hy : y < 6) : ∀ P : D → Prop, SO (gIx (.lst true [.a (.int 1), .a (.int 2), .a (.int 4), .a (.int 8), .a (.int 16), .a (.int 32)]) (natD y)) P = P (.a (.int ((2 ^ y : Nat) : Int))) := fun P => by
  have e : gIx (.lst true [.a (.int 1), .a (.int 2), .a (.int 4), .a (.int 8), .a (.int 16), .a (.int 32)]) (natD y) = some (.a (.int ((2 ^ y : Nat) : Int))) := by
    have : y = 0 ∨ y = 1 ∨ y = 2 ∨ y = 3 ∨ y = 4 ∨ y = 5 := by omega
    rcases this with rfl | rfl | rfl | rfl | rfl | rfl <;> kernel_rfl
  rw [e]; rfl
theorem lst6 {ρ : DL.Env} : dLst (dACons (dC (.int 1)) (dACons (dC (.int 2)) (dACons (dC (.int 4)) (dACons (dC (.int 8)) (dACons (dC (.int 16)) (dACons (dC (.int 32)) dANil)))))) ρ = .ok (.lst true [.a (.int 1), .a (.int 2), .a (.int 4), .a (.int 8), .a (.int 16), .a (.int 32)]) ρ := by
  apply out_eq
  rw [w_Lst]
  simp
theorem law_bit_eq {j y : Nat} (hy : y < 6) (hj : j < 1000) : F_law_bit [natD j, natD y] = .rt (.a (.bl (j.testBit y))) none := by
  have key : ∀ k : Nat, decide (((j : Int) / ((2 ^ k : Nat) : Int)) % 2 = 1) = j.testBit k := fun k => by
    rw [Nat.testBit_eq_decide_div_mod_eq]
    have : ((j : Int) / ((2 ^ k : Nat) : Int)) = ((j / 2 ^ k : Nat) : Int) := by simp
    rw [this, Bool.eq_iff_iff, decide_eq_true_eq, decide_eq_true_eq]
    omega
  have gi : ∀ P : D → Prop, SO (gIx (.lst true [.a (.int 1), .a (.int 2), .a (.int 4), .a (.int 8), .a (.int 16), .a (.int 32)]) (natD y)) P = P (.a (.int ((2 ^ y : Nat) : Int))) := fun P => by
    have e : gIx (.lst true [.a (.int 1), .a (.int 2), .a (.int 4), .a (.int 8), .a (.int 16), .a (.int 32)]) (natD y) = some (.a (.int ((2 ^ y : Nat) : Int))) := by
      have : y = 0 ∨ y = 1 ∨ y = 2 ∨ y = 3 ∨ y = 4 ∨ y = 5 := by omega
      rcases this with rfl | rfl | rfl | rfl | rfl | rfl <;> kernel_rfl
    rw [e]; rfl
  have p2 : (0 : Int) < ((2 ^ y : Nat) : Int) := by
    have := Nat.two_pow_pos y
    omega
  apply wf_eq
  unfold F_law_bit
  rw [wf_fn]
  unfold B_law_bit
  show WP _ (dBind _ _ [some (natD j), some (natD y)])
  rw [p_Bind]
  have e1 : dLst (dACons (dC (.int 1)) (dACons (dC (.int 2)) (dACons (dC (.int 4)) (dACons (dC (.int 8)) (dACons (dC (.int 16)) (dACons (dC (.int 32)) dANil)))))) [some (natD j), some (natD y)] = .ok (.lst true [.a (.int 1), .a (.int 2), .a (.int 4), .a (.int 8), .a (.int 16), .a (.int 32)]) [some (natD j), some (natD y)] := by
    apply out_eq
    rw [w_Lst]
    simp
  refine wo_of (op2E (d := .a (.bl (j.testBit y))) (op2E (d := .a (.int (((j : Int) / ((2 ^ y : Nat) : Int)) % 2))) (op2E (d := .a (.int ((j : Int) / ((2 ^ y : Nat) : Int)))) (var_eq rfl rfl) (op2E e1 (var_eq rfl rfl) gi) fun P => ?_) cE fun P => ?_) cE fun P => ?_) ?_
  · show SO (gFdiv (.a (.int (j : Int))) (.a (.int ((2 ^ y : Nat) : Int)))) P = _
    rw [o_fdiv]
    have : divOk (j : Int) ((2 ^ y : Nat) : Int) = true := divOk_small p2 (by
      have := Nat.pow_le_pow_right (n := 2) (by decide) (show y ≤ 5 by omega)
      omega)
    rw [this]
    simp
  · rw [o_mod]; simp
  · rw [← key y]
    simp
  · exact ⟨rfl, rfl⟩
end DC
namespace DC
open PySem L2 DL
end DC
namespace DC
open PySem L2 DL
section
variable {w : Str} {a b : D}
end
end DC
namespace DC
open PySem L2 DL
end DC
namespace DC
open PySem L2 DL
theorem cut_lo {xs : List D} {k : Nat} : cutD xs (some (k : Int)) none = xs.drop k := by
  unfold cutD
  rw [HT.sIx_none, HT.sIx_nat]
  by_cases h : k ≤ xs.length
  · rw [Nat.min_eq_left h, List.take_of_length_le]
    simp
  · rw [Nat.min_eq_right (by omega), List.drop_length, List.drop_eq_nil_of_le (by omega)]
    simp
theorem cut_hi {xs : List D} {k : Nat} : cutD xs none (some (k : Int)) = xs.take k := by
  unfold cutD
  rw [HT.sIx_none, HT.sIx_nat, List.drop_zero, Nat.sub_zero]
  by_cases h : k ≤ xs.length
  · rw [Nat.min_eq_left h]
  · rw [Nat.min_eq_right (by omega), List.take_length, List.take_of_length_le (by omega)]
theorem slLo {f g : DL.Env → Out D} {ρ : DL.Env} {xs : List D} {k : Nat} (hf : f ρ = .ok (.n .tup false xs) ρ) (hg : g ρ = .ok (natD k) ρ) : dSl f (some g) none ρ = .ok (.n .tup false (xs.drop k)) ρ := by
  apply out_eq
  rw [w_Sl, hf, wo_ok, w_part1, hg, wo_ok]
  show D.tup (cutD xs (some (k : Int)) none) = _ ∧ _
  exact ⟨by rw [cut_lo], rfl⟩
theorem slHi {f g : DL.Env → Out D} {ρ : DL.Env} {xs : List D} {k : Nat} (hf : f ρ = .ok (.n .tup false xs) ρ) (hg : g ρ = .ok (natD k) ρ) : dSl f none (some g) ρ = .ok (.n .tup false (xs.take k)) ρ := by
  apply out_eq
  rw [w_Sl, hf, wo_ok, w_part0, w_part1, hg, wo_ok]
  show D.tup (cutD xs none (some (k : Int))) = _ ∧ _
  exact ⟨by rw [cut_hi], rfl⟩
theorem catTE {f g : DL.Env → Out D} {ρ : DL.Env} {xs ys : List D} (hf : f ρ = .ok (.n .tup false xs) ρ) (hg : g ρ = .ok (.n .tup false ys) ρ) (h1 : isFL xs = true) (h2 : isFL ys = true) (hl : xs.length + ys.length ≤ 1000000) : dOp2 gAdd f g ρ = .ok (.n .tup false (xs ++ ys)) ρ :=
  op2E hf hg fun P => catT h1 h2 hl
theorem tup1 {fa : DL.Env → Out D} {ρ : DL.Env} {a : D} (ha : fa ρ = .ok a ρ) (za : isF a = true) : dTup (dACons fa dANil) ρ = .ok (.n .tup false [a]) ρ := by
  apply out_eq
  rw [w_Tup, ag1 ha, wo_ok]
  refine ⟨show 1 ≤ cap by decide, ?_, rfl⟩
  rw [frzL_isFL [a] (by rw [isFL_cons, za]; rfl)]
section
variable {f g : DL.Env → Out D} {ρ : DL.Env} {A B : List (List Nat)} {l m : List Nat} {k : Nat}
end
section
variable {n : Nat} {T : Tb} {r : Bool} {s : List Nat} {Ps : List (List Nat)}
end
end DC
namespace G11
open PySem L2 DL
def B_law : DL.Env → Fl :=
  (dSeq (dBind (dCall 1 DC.F_law_numbers (dACons (dVar 0) dANil)) (stSet 1))
  (dSeq (dBind (dCallL 2 (some 0) DC.F_law_next (dALent 1 (dACons (dC (.int 6)) dANil))) (stSet 2))
  (dSeq (dBind (dCallL 2 (some 0) DC.F_law_next (dALent 1 (dACons (dC (.int 6)) dANil))) (stSet 3))
  (dSeq (dBind (dOp2 gIx (dLst (dACons (dC (.int 1)) (dACons (dC (.int 2)) (dACons (dC (.int 4)) (dACons (dC (.int 8)) (dACons (dC (.int 16)) (dACons (dC (.int 32)) dANil))))))) (dVar 3)) (stSet 4))
  (dSeq (dFrz 1 (dBind (dU gTuple (dLc [12] (dRng1 (dVar 2)) (tg1 12) dYes (dCallL 2 (some 0) DC.F_law_next (dALent 1 (dACons (dVar 4) dANil))))) (stSet 5)))
  (dSeq (dBind (dCall 2 DC.F_largest_matching (dACons (dVar 5) (dACons (dVar 3) dANil))) (stSet 6))
  (dSeq (dBind (dCall 3 DC.F_least_cover (dACons (dVar 5) (dACons (dVar 3) (dACons (dVar 6) dANil)))) (stSet 7))
  (dSeq (dBind (dLst dANil) (stSet 8))
  (dSeq (dFrz 8 (dFor (dRng1 (dVar 2)) (tg1 9) (dSeq (dBind (dOp2 gIx (dVar 6) (dVar 9)) (stSet 11))
  (dIf (dB (dOp2 gNe (dVar 11) (dU gNeg (dC (.int 1))))) (dSeq (dIf (dOrT (dB (dOp2 gLt (dVar 11) (dC (.int 0)))) (dOrT (dB (dOp2 gGe (dVar 11) (dVar 3))) (dOrT (dNotT (dB (dCall 2 DC.F_law_bit (dACons (dOp2 gIx (dVar 5) (dVar 9)) (dACons (dVar 11) dANil))))) (dB (dOp2 gIn (dVar 11) (dPeek 8)))))) (dBind (dC (.bl false)) fun d ρ => .rt d ρ) dNext)
  (dHas 8 (dBind (dVar 11) (stApp 8)))) dNext))))
  (dSeq (dFor (dRng1 (dVar 2)) (tg1 9) (dFor (dRng1 (dVar 3)) (tg1 11) (dIf (dAndT (dB (dCall 2 DC.F_law_bit (dACons (dOp2 gIx (dVar 5) (dVar 9)) (dACons (dVar 11) dANil)))) (dAndT (dNotT (dB (dCall 2 DC.F_law_bit (dACons (dOp2 gIx (dVar 7) (dC (.int 0))) (dACons (dVar 9) dANil))))) (dNotT (dB (dCall 2 DC.F_law_bit (dACons (dOp2 gIx (dVar 7) (dC (.int 1))) (dACons (dVar 11) dANil))))))) (dBind (dC (.bl false)) fun d ρ => .rt d ρ) dNext)))
  (dSeq (dBind (dOp2 gAdd (dU gLen (dLc [9] (dRng1 (dVar 2)) (tg1 9) (dB (dCall 2 DC.F_law_bit (dACons (dOp2 gIx (dVar 7) (dC (.int 0))) (dACons (dVar 9) dANil)))) (dVar 9))) (dU gLen (dLc [11] (dRng1 (dVar 3)) (tg1 11) (dB (dCall 2 DC.F_law_bit (dACons (dOp2 gIx (dVar 7) (dC (.int 1))) (dACons (dVar 11) dANil)))) (dVar 11)))) (stSet 10))
  (dSeq (dIf (dOrT (dB (dOp2 gNe (dU gLen (dVar 6)) (dVar 2))) (dB (dOp2 gNe (dVar 10) (dU gLen (dVar 8))))) (dBind (dC (.bl false)) fun d ρ => .rt d ρ) dNext)
  (dSeq (dIf (dOrT (dNotT (dB (dCall 2 DC.F_is_matching (dACons (dVar 5) (dACons (dVar 6) dANil))))) (dOrT (dNotT (dB (dCall 2 DC.F_is_cover (dACons (dVar 5) (dACons (dVar 7) dANil))))) (dB (dCall 2 DC.F_is_matching (dACons (dVar 5) (dACons (dOp2 gAdd (dVar 6) (dTup (dACons (dU gNeg (dC (.int 1))) dANil))) dANil)))))) (dBind (dC (.bl false)) fun d ρ => .rt d ρ) dNext)
  (dSeq (dFor (dRng1 (dVar 2)) (tg1 9) (dFor (dRng1 (dVar 3)) (tg1 11) (dIf (dNotT (dB (dCall 2 DC.F_law_bit (dACons (dOp2 gIx (dVar 5) (dVar 9)) (dACons (dVar 11) dANil))))) (dIf (dB (dCall 2 DC.F_is_matching (dACons (dVar 5) (dACons (dOp2 gAdd (dOp2 gAdd (dSl (dVar 6) none (some (dVar 9))) (dTup (dACons (dVar 11) dANil))) (dSl (dVar 6) (some (dOp2 gAdd (dVar 9) (dC (.int 1)))) none)) dANil)))) (dBind (dC (.bl false)) fun d ρ => .rt d ρ) dNext) (dIf (dB (dCall 2 DC.F_is_cover (dACons (dVar 5) (dACons (dTup (dACons (dOp2 gSub (dOp2 gIx (dVar 7) (dC (.int 0))) (dOp2 gIx (dVar 7) (dC (.int 0)))) (dACons (dC (.int 0)) dANil))) dANil)))) (dBind (dC (.bl false)) fun d ρ => .rt d ρ) dNext))))
  (dSeq (dIf (dAndT (dB (dOp2 gGt (dU gLen (dVar 8)) (dC (.int 0)))) (dB (dOp2 gGt (dVar 2) (dC (.int 1))))) (dBind (dNotV (dCall 2 DC.F_is_matching (dACons (dTup (dACons (dOp2 gIx (dVar 5) (dC (.int 0))) (dACons (dOp2 gIx (dVar 5) (dC (.int 0))) dANil))) (dACons (dTup (dACons (dOp2 gIx (dVar 8) (dC (.int 0))) (dACons (dOp2 gIx (dVar 8) (dC (.int 0))) dANil))) dANil)))) fun d ρ => .rt d ρ) dNext)
  (dBind (dC (.bl true)) fun d ρ => .rt d ρ))))))))))))))))
def F_law : List D → FR := fnD 13 none B_law
end G11
set_option pp.maxSteps 1500
namespace G11
open PySem L2 DL DC
def po (m : Ow) (R x : Nat) : Option Nat := if 0 ≤ mv m R x then some (mv m R x).toNat else none
def qM (m : Ow) (R n : Nat) : List (Option Nat) := (List.range n).map (po m R)
theorem matD_opt {m : Ow} {R n : Nat} (hi : OInj m) : matD false .tup n m R = optT (qM m R n) := by
  unfold matD optT qM vec
  rw [List.map_map]
  show D.n _ _ _ = D.n _ _ _
  congr 1
  refine List.map_congr_left fun x _ => ?_
  show _ = oD (po m R x)
  unfold po
  by_cases e : 0 ≤ mv m R x
  · rw [if_pos e]
    show _ = natD _
    unfold natD
    rw [Int.toNat_of_nonneg e]
  · rw [if_neg e, mv_neg hi e]
    rfl
theorem qM_len {m : Ow} {R n : Nat} : (qM m R n).length = n := by unfold qM; simp
theorem qM_at {m : Ow} {R n x : Nat} (hx : x < n) : (qM m R n)[x]? = some (po m R x) := by
  unfold qM
  rw [List.getElem?_map, List.getElem?_range hx]
  rfl
theorem po_iff {m : Ow} {R x y : Nat} (hi : OInj m) (hr : ∀ y z, oAt m y = some z → y < R) : po m R x = some y ↔ oAt m y = some x := by
  unfold po
  constructor
  · intro h
    split at h
    · rename_i e
      cases h
      obtain ⟨y0, h1, h2, h3⟩ := mv_pos hi e
      rw [h3, Int.toNat_natCast]
      exact h2
    · cases h
  · intro h
    have := mv_of (R := R) hi hr h
    rw [this, if_pos (by omega), Int.toNat_natCast]
theorem chkM_ok : ∀ {js : List Nat} {q : List (Option Nat)} {U : List Nat}, (∀ (i y j : Nat), q[i]? = some (some y) → js[i]? = some j → j.testBit y = true ∧ y ∉ U) → (∀ i i' y : Nat, q[i]? = some (some y) → q[i']? = some (some y) → i = i') → chkM js q U = true
  | [], q, U, _, _ => by cases q <;> rfl
  | j :: js, [], U, _, _ => rfl
  | j :: js, none :: q, U, h, hi => by
    rw [chkM]
    exact chkM_ok (fun i y j' a b => h (i + 1) y j' (by simpa using a) (by simpa using b)) fun i i' y a b => by
      have := hi (i + 1) (i' + 1) y (by simpa using a) (by simpa using b)
      omega
  | j :: js, some y :: q, U, h, hi => by
    obtain ⟨h1, h2⟩ := h 0 y j rfl rfl
    rw [chkM, if_neg (by rw [h1]; simp [h2])]
    refine chkM_ok (fun i y' j' a b => ?_) fun i i' y' a b => by
      have := hi (i + 1) (i' + 1) y' (by simpa using a) (by simpa using b)
      omega
    obtain ⟨h3, h4⟩ := h (i + 1) y' j' (by simpa using a) (by simpa using b)
    refine ⟨h3, ?_⟩
    have : y' ≠ y := fun e => by
      subst e
      have := hi 0 (i + 1) y' rfl (by simpa using a)
      omega
    simp [h4, this]
theorem chkM_bad : ∀ {js : List Nat} {q : List (Option Nat)} {U : List Nat} {i y j : Nat}, q[i]? = some (some y) → js[i]? = some j → j.testBit y = false → chkM js q U = false
  | [], q, U, i, y, j, _, h, _ => by simp at h
  | _ :: js, [], U, i, y, j, h, _, _ => by simp at h
  | j0 :: js, o :: q, U, 0, y, j, h, h2, h3 => by
    have h : o = some y := by simpa using h
    have h2 : j0 = j := by simpa using h2
    subst h h2
    rw [chkM, if_pos (.inl h3)]
  | j0 :: js, none :: q, U, i + 1, y, j, h, h2, h3 => by
    rw [chkM]
    exact chkM_bad (i := i) (by simpa using h) (by simpa using h2) h3
  | j0 :: js, some y0 :: q, U, i + 1, y, j, h, h2, h3 => by
    rw [chkM]
    split
    · rfl
    · exact chkM_bad (i := i) (by simpa using h) (by simpa using h2) h3
theorem twice {j u : Nat} : chkM [j, j] [some u, some u] [] = false := by
  rw [chkM]
  split
  · rfl
  · rw [chkM, if_pos (.inr (by simp))]
def used (m : Ow) (R k : Nat) : List Nat := (List.range k).filterMap (po m R)
theorem used_succ {m : Ow} {R k : Nat} : used m R (k + 1) = used m R k ++ (match po m R k with | some y => [y] | none => []) := by
  unfold used
  rw [List.range_succ, List.filterMap_append, List.filterMap_cons, List.filterMap_nil]
  cases po m R k <;> rfl
theorem used_len {m : Ow} {R : Nat} : ∀ k, (used m R k).length = ((List.range k).filter (hasO m R)).length
  | 0 => rfl
  | k + 1 => by
    have ih := used_len (m := m) (R := R) k
    rw [used_succ, List.range_succ, List.filter_append, List.length_append, List.length_append, ih, List.filter_cons, List.filter_nil]
    unfold po hasO
    by_cases e : 0 ≤ mv m R k
    · rw [if_pos e, decide_eq_true e]; rfl
    · rw [if_neg e, decide_eq_false e]; rfl
theorem mem_used {m : Ow} {R k y : Nat} (hi : OInj m) (hr : ∀ y z, oAt m y = some z → y < R) : y ∈ used m R k ↔ ∃ x, x < k ∧ oAt m y = some x := by
  unfold used
  rw [List.mem_filterMap]
  constructor
  · rintro ⟨x, hx, e⟩
    exact ⟨x, List.mem_range.mp hx, (po_iff hi hr).mp e⟩
  · rintro ⟨x, hx, e⟩
    exact ⟨x, List.mem_range.mpr hx, (po_iff hi hr).mpr e⟩
theorem law_true (ns : List Int) (hl : ns.length ≤ 63) (hb : ∀ z ∈ ns, Builtin.Int.intBits z ≤ 1048576) : F_law [.scr (ns.map D.int)] = .rt (.bl true) none := by
  apply wf_eq
  unfold F_law
  rw [wf_fn]
  unfold B_law
  refine wp_step fun K hK => ?_
  simp
  refine (numbers_wf ns hl hb).mono ?_
  intro d io h1
  apply hK
  clear hK K
  generalize D.scr (ns.map D.int) = d0
  refine wp_cutK (fun ρ => ∃ (st : D) (n : Nat), ρ = [some (d0), some (st), some (natD n), none, none, none, none, none, none, none, none, none, none] ∧ (n < 6 ∧ Nms st)) (fun K hK => ?_) ?_
  · simp
    refine (next_wf h1.1 6 (by decide)).mono ?_
    rintro d io ⟨v, rfl, hv, hv6, st', rfl, h3⟩
    obtain ⟨n, rfl⟩ := Int.eq_ofNat_of_zero_le hv
    simp
    exact hK _ ⟨_, n, rfl, by omega, h3⟩
  clear h1 io d
  intro ρ h
  obtain ⟨st, n, hρ, hn, h1⟩ := h
  subst hρ
  refine wp_cutK (fun ρ => ∃ (st : D) (R : Nat), ρ = [some (d0), some (st), some (natD n), some (natD R), none, none, none, none, none, none, none, none, none] ∧ (R < 6 ∧ Nms st)) (fun K hK => ?_) ?_
  · simp
    refine (next_wf h1 6 (by decide)).mono ?_
    rintro d io ⟨v, rfl, hv, hv6, st', rfl, h3⟩
    obtain ⟨R, rfl⟩ := Int.eq_ofNat_of_zero_le hv
    simp
    exact hK _ ⟨_, R, rfl, by omega, h3⟩
  clear h1
  intro ρ h
  obtain ⟨st, R, hρ, hR, h1⟩ := h
  subst hρ
  refine wp_step fun K hK => ?_
  rw [wx, p_Bind]
  refine wo_of (op2E lst6 (var_eq rfl rfl) (pw6 hR)) ?_
  rw [p_Set]
  refine ⟨by simp, ?_⟩
  apply hK
  clear hK K
  refine wp_cutK (fun ρ => ∃ (js : List Nat) (d1 : D), ρ = [some (d0), some (d1), some (natD n), some (natD R), some (natD (2 ^ R)), some (tupN js), none, none, none, none, none, none, none] ∧ (js.length = n ∧ ∀ j ∈ js, j < 2 ^ R)) (fun K hK => ?_) ?_
  · rw [wx, p_Frz, p_Bind, w_U]
    show WO _ _ (dLc _ _ _ _ _ [some (d0), some (st), some (natD n), some (natD R), some (natD (2 ^ R)), none, none, none, none, none, none, none, none])
    rw [w_Lc, src_rngN (n := n) (var_eq rfl rfl) (by omega), wo_ok]
    refine ⟨by simp; omega, ?_⟩
    refine wo_lcK (fun i ys ρ => ∃ (js : List Nat) (st : D), ρ = [some (d0), some (st), some (natD n), some (natD R), some (natD (2 ^ R)), none, none, none, none, none, none, none, none] ∧ ys = js.map natD ∧ js.length = i ∧ (∀ j ∈ js, j < 2 ^ R) ∧ Nms st) ⟨[], st, rfl, rfl, rfl, (fun j hj => nomatch hj), h1⟩ ?_ ?_
    · rintro i d ys ρ h2 ⟨js, st, rfl, rfl, hjl, hj, h1⟩ J hJ
      obtain ⟨hi', rfl⟩ := vec_get' (f := natD) h2
      have p2 : (0 : Int) < ((2 ^ R : Nat) : Int) := by
        have := Nat.two_pow_pos R
        omega
      simp [natD]
      refine (next_wf h1 ((2 ^ R : Nat) : Int) p2).mono ?_
      rintro d io ⟨u, rfl, u0, u1, st', rfl, h6⟩
      obtain ⟨j, rfl⟩ := Int.eq_ofNat_of_zero_le u0
      simp
      refine hJ _ _ ⟨js ++ [j], st', rfl, by simp [natD], by simp [hjl], fun z hz => ?_, h6⟩
      rcases List.mem_append.mp hz with q | q
      · exact hj z q
      · have : z = j := by simpa using q
        omega
    · rintro ys ρ ⟨js, st, rfl, rfl, hjl, hj, h1⟩
      rw [List.length_map, List.length_range] at hjl
      have fl : isFL (js.map natD) = true := isFL_map fun _ => rfl
      simp [fl]
      exact hK _ ⟨js, frz st, rfl, hjl, hj⟩
  clear h1 st
  intro ρ h
  obtain ⟨js, d1, hρ, hjl, hj⟩ := h
  subst hρ
  have h32 : 2 ^ R ≤ 2 ^ 5 := Nat.pow_le_pow_right (by decide) (by omega)
  have h32b : (2 : Nat) ^ 5 = 32 := by decide
  have hj32 : ∀ j ∈ js, j < 32 := fun j h => by have := hj j h; omega
  have ok := mK_ok (js := js) (R := R) (by omega) js.length
  have lm := largest_matching_eq (R := R) (by omega) hj (by omega)
  generalize mK R js js.length = m at ok lm
  rw [hjl] at ok lm
  have hi := ok.inj
  have hr : ∀ y z, oAt m y = some z → y < R := fun y z e => nbr_lt z y (ok.edge y z e)
  have edge : ∀ y z, oAt m y = some z → (js.getD z 0).testBit y = true := fun y z e => (List.mem_filter.mp (ok.edge y z e)).2
  obtain ⟨dc, ioc, ec, rfl, rs, F, rfl, cov⟩ := wf_ex (least_cover_wf (R := R) (n := n) (js := js) (m := m) (by omega) hj hjl (by omega) ok)
  have kg := konig hi hr ok.low cov
  rw [matD_opt hi] at lm ec
  obtain ⟨L, hL⟩ : ∃ L, L = mask n fun x => !decide (x ∈ rs) := ⟨_, rfl⟩
  have Lb : ∀ x, L.testBit x = (decide (x < n) && !decide (x ∈ rs)) := fun x => by rw [hL, mask_bit]
  have Ll : L < 2 ^ n := by rw [hL]; exact mask_lt _ _
  have hn5 : 2 ^ n ≤ 2 ^ 5 := Nat.pow_le_pow_right (by decide) (by omega)
  have Fl : F < 32 := by
    have : F < 2 ^ R := Nat.lt_pow_two_of_testBit _ fun i hi' => by
      cases e : F.testBit i with
      | false => rfl
      | true => have := (cov.own i e).1; omega
    omega
  rw [← hL] at ec
  generalize hq : qM m R n = q at lm ec
  have ql : q.length = n := by rw [← hq]; exact qM_len
  have qat : ∀ x, x < n → q[x]? = some (po m R x) := fun x hx => by rw [← hq]; exact qM_at hx
  have po_y : ∀ x y, po m R x = some y ↔ oAt m y = some x := fun x y => po_iff hi hr
  have jat : ∀ x, x < n → js[x]? = some (js.getD x 0) := fun x hx => by
    rw [List.getD_eq_getElem?_getD, List.getElem?_eq_getElem (by omega)]
    rfl
  have jlt : ∀ x, x < n → js.getD x 0 < 32 := fun x hx => hj32 _ (List.mem_of_getElem? (jat x hx))
  refine wp_step fun K hK => ?_
  rw [wx, p_Bind]
  refine wo_of (call2 (var_eq rfl isF_tupN) (var_eq rfl rfl) isF_tupN rfl lm) ?_
  rw [p_Set]
  refine ⟨by simp, ?_⟩
  apply hK
  clear hK K
  refine wp_step fun K hK => ?_
  rw [wx, p_Bind]
  refine wo_of (call3 (var_eq rfl isF_tupN) (var_eq rfl rfl) (var_eq rfl isF_optT) isF_tupN rfl isF_optT ec) ?_
  rw [p_Set]
  refine ⟨by simp, ?_⟩
  apply hK
  clear hK K
  generalize hcv : (D.n .tup false [natD L, natD F]) = cv at *
  have fcv : isF cv = true := by rw [← hcv]; rfl
  have cv0 : ∀ P : D → Prop, SO (gIx cv (.a (.int 0))) P = P (natD L) := fun P => by rw [← hcv]; rfl
  have cv1 : ∀ P : D → Prop, SO (gIx cv (.a (.int 1))) P = P (natD F) := fun P => by rw [← hcv]; rfl
  refine wp_step fun K hK => ?_
  rw [wx, p_Bind]
  refine wo_of (x := lstN true []) (out_eq (by rw [w_Lst, w_ANil]; exact ⟨by simp, rfl, rfl⟩)) ?_
  rw [p_Set]
  refine ⟨by simp, ?_⟩
  apply hK
  clear hK K
  show WP _ (dSeq _ _ [some (d0), some (d1), some (natD n), some (natD R), some (natD (2 ^ R)), some (tupN js), some (optT q), some (cv), some (lstN true []), none, none, none, none])
  -- the pairs
  refine wp_cutK (fun ρ => ∃ (v9 v11 : Option D), ρ = [some (d0), some (d1), some (natD n), some (natD R), some (natD (2 ^ R)), some (tupN js), some (optT q), some (cv), some (lstN false (used m R n)), v9, none, v11, none] ∧ ((∀ d, v9 = some d → isF d = true) ∧ ∀ d, v11 = some d → isF d = true)) (fun K hK => ?_) ?_
  · rw [wx, p_Frz, p_For, src_rngN (n := n) (var_eq rfl rfl) (by omega), wo_ok]
    refine wp_forK (fun k ρ => ∃ (v9 v11 : Option D), ρ = [some (d0), some (d1), some (natD n), some (natD R), some (natD (2 ^ R)), some (tupN js), some (optT q), some (cv), some (lstN true (used m R k)), v9, none, v11, none] ∧ ((∀ d, v9 = some d → isF d = true) ∧ ∀ d, v11 = some d → isF d = true)) ⟨none, none, rfl, (fun d e => nomatch e), (fun d e => nomatch e)⟩ ?_ ?_
    · rintro k d _ hd ⟨v9, v11, rfl, f9, f11⟩ J hJ
      obtain ⟨hk, rfl⟩ := vec_get' (f := natD) hd
      rw [s_tg1]
      refine ⟨by simp, ?_⟩
      show WP _ (dSeq _ _ [some (d0), some (d1), some (natD n), some (natD R), some (natD (2 ^ R)), some (tupN js), some (optT q), some (cv), some (lstN true (used m R k)), some (natD k), none, v11, none])
      refine wp_step fun K hK => ?_
      rw [wx, p_Bind]
      refine wo_of (op2E (d := oD (po m R k)) (var_eq rfl isF_optT) (var_eq rfl rfl) fun P => oix (qat k hk)) ?_
      rw [p_Set]
      refine ⟨by simp, ?_⟩
      apply hK
      clear hK K
      show WP _ (dIf _ _ _ [some (d0), some (d1), some (natD n), some (natD R), some (natD (2 ^ R)), some (tupN js), some (optT q), some (cv), some (lstN true (used m R k)), some (natD k), none, some (oD (po m R k)), none])
      have us := used_succ (m := m) (R := R) (k := k)
      cases hp : po m R k with
      | none =>
        rw [hp, List.append_nil] at us
        have t1 := neI (f := dVar 11) (g := dU gNeg (dC (.int 1))) (a := -1) (b := -1) (ρ := [some (d0), some (d1), some (natD n), some (natD R), some (natD (2 ^ R)), some (tupN js), some (optT q), some (cv), some (lstN true (used m R k)), some (natD k), none, some (oD none), none]) (var_eq rfl rfl) rfl
        refine if_no t1 ?_
        rw [← us]
        exact hJ _ ⟨some (natD k), some (oD none), rfl, (fun d e => by cases e; rfl), (fun d e => by cases e; rfl)⟩
      | some y =>
        rw [hp] at us
        have hy := (po_y k y).mp hp
        have yR := hr y k hy
        have t1 := neI (f := dVar 11) (g := dU gNeg (dC (.int 1))) (a := (y : Int)) (b := -1) (ρ := [some (d0), some (d1), some (natD n), some (natD R), some (natD (2 ^ R)), some (tupN js), some (optT q), some (cv), some (lstN true (used m R k)), some (natD k), none, some (oD (some y)), none]) (var_eq rfl rfl) rfl
        rw [decide_eq_false (by omega)] at t1
        have t2 : dB (dOp2 gLt (dVar 11) (dC (.int 0))) [some (d0), some (d1), some (natD n), some (natD R), some (natD (2 ^ R)), some (tupN js), some (optT q), some (cv), some (lstN true (used m R k)), some (natD k), none, some (oD (some y)), none] = .ok false [some (d0), some (d1), some (natD n), some (natD R), some (natD (2 ^ R)), some (tupN js), some (optT q), some (cv), some (lstN true (used m R k)), some (natD k), none, some (oD (some y)), none] := by
          have h1 := ltI (f := dVar 11) (g := dC (.int 0)) (a := (y : Int)) (b := 0) (ρ := [some (d0), some (d1), some (natD n), some (natD R), some (natD (2 ^ R)), some (tupN js), some (optT q), some (cv), some (lstN true (used m R k)), some (natD k), none, some (oD (some y)), none]) (var_eq rfl rfl) cE
          rw [h1, decide_eq_false (by omega)]
        have t3 : dB (dOp2 gGe (dVar 11) (dVar 3)) [some (d0), some (d1), some (natD n), some (natD R), some (natD (2 ^ R)), some (tupN js), some (optT q), some (cv), some (lstN true (used m R k)), some (natD k), none, some (oD (some y)), none] = .ok false [some (d0), some (d1), some (natD n), some (natD R), some (natD (2 ^ R)), some (tupN js), some (optT q), some (cv), some (lstN true (used m R k)), some (natD k), none, some (oD (some y)), none] := by
          have h1 := geE (f := dVar 11) (g := dVar 3) (a := (y : Int)) (b := (R : Int)) (ρ := [some (d0), some (d1), some (natD n), some (natD R), some (natD (2 ^ R)), some (tupN js), some (optT q), some (cv), some (lstN true (used m R k)), some (natD k), none, some (oD (some y)), none]) (var_eq rfl rfl) (var_eq rfl rfl)
          rw [h1, decide_eq_false (by omega)]
        have t4 : dB (dCall 2 DC.F_law_bit (dACons (dOp2 gIx (dVar 5) (dVar 9)) (dACons (dVar 11) dANil))) [some (d0), some (d1), some (natD n), some (natD R), some (natD (2 ^ R)), some (tupN js), some (optT q), some (cv), some (lstN true (used m R k)), some (natD k), none, some (oD (some y)), none] = .ok true [some (d0), some (d1), some (natD n), some (natD R), some (natD (2 ^ R)), some (tupN js), some (optT q), some (cv), some (lstN true (used m R k)), some (natD k), none, some (oD (some y)), none] := by
          have h1 := law_bit_eq (j := js.getD k 0) (y := y) (by omega) (by have := jlt k hk; omega)
          rw [edge y k hy] at h1
          exact bE2 (call2 (op2E (var_eq rfl isF_tupN) (var_eq rfl rfl) fun P => tixN (jat k hk)) (var_eq rfl rfl) rfl rfl h1)
        have t5 : dB (dOp2 gIn (dVar 11) (dPeek 8)) [some (d0), some (d1), some (natD n), some (natD R), some (natD (2 ^ R)), some (tupN js), some (optT q), some (cv), some (lstN true (used m R k)), some (natD k), none, some (oD (some y)), none] = .ok false [some (d0), some (d1), some (natD n), some (natD R), some (natD (2 ^ R)), some (tupN js), some (optT q), some (cv), some (lstN true (used m R k)), some (natD k), none, some (oD (some y)), none] := by
          have h1 := inPk (i := 11) (j := 8) (x := y) (o := true) (l := used m R k) (ρ := [some (d0), some (d1), some (natD n), some (natD R), some (natD (2 ^ R)), some (tupN js), some (optT q), some (cv), some (lstN true (used m R k)), some (natD k), none, some (oD (some y)), none]) rfl rfl
          rw [h1, decide_eq_false]
          intro hm
          obtain ⟨x, hx, e⟩ := (mem_used hi hr).mp hm
          rw [hy] at e
          cases e
          omega
        rw [p_If, t1, wo_ok, if_pos (by rfl)]
        refine wp_step fun K hK => ?_
        rw [wx]
        refine if_no (or_no t2 (or_no t3 (or_no (notE t4) t5))) ?_
        apply hK
        clear hK K
        rw [p_Has]
        refine ⟨True.intro, ?_⟩
        rw [p_Bind]
        refine wo_of (x := natD y) (var_eq rfl rfl) ?_
        rw [p_App]
        have ul := used_len (m := m) (R := R) k
        have fl := List.length_filter_le (hasO m R) (List.range k)
        rw [List.length_range] at fl
        refine ⟨by rw [List.length_map]; show _ < 1000000; omega, ?_⟩
        have eT : D.lst true ((used m R k).map natD ++ [natD y]) = lstN true (used m R (k + 1)) := by rw [us]; unfold lstN; rw [List.map_append]; rfl
        rw [eT]
        exact hJ _ ⟨some (natD k), some (natD y), rfl, (fun d e => by cases e; rfl), (fun d e => by cases e; rfl)⟩
    · rintro _ ⟨v9, v11, rfl, f9, f11⟩
      rw [List.length_map, List.length_range]
      refine hK _ ⟨v9, v11, ?_, f9, f11⟩
      rw [frzAt_some (i := 8) (d := lstN true (used m R n)) rfl]
      have : frz (lstN true (used m R n)) = lstN false (used m R n) := by
        show D.n _ false (frzL _) = _
        rw [frzL_isFL _ (isFL_map fun _ => rfl)]
        rfl
      rw [this]
      rfl
  have ulen := used_len (m := m) (R := R) n
  rintro _ ⟨v9, v11, rfl, f9, f11⟩
  generalize hU : used m R n = U at *
  have covb : ∀ x y, x < n → y < R → ((js.getD x 0).testBit y && (!L.testBit x && !F.testBit y)) = false := fun x y hx hy => by
    cases e : (js.getD x 0).testBit y with
    | false => rfl
    | true =>
      by_cases hx2 : x ∈ rs
      · have : F.testBit y = true := cov.done x hx2 y (List.mem_filter.mpr ⟨List.mem_range.mpr hy, e⟩)
        rw [this]; simp
      · rw [Lb, decide_eq_true hx, decide_eq_false hx2]; rfl
  have bitJ : ∀ (ρ : DL.Env) (x y : Nat), x < n → y < R → ρ[5]? = some (some (tupN js)) → ρ[9]? = some (some (natD x)) → ρ[11]? = some (some (natD y)) → dB (dCall 2 DC.F_law_bit (dACons (dOp2 gIx (dVar 5) (dVar 9)) (dACons (dVar 11) dANil))) ρ = .ok ((js.getD x 0).testBit y) ρ := fun ρ x y hx hy h5 h9 h11 =>
    bE2 (call2 (op2E (var_eq h5 isF_tupN) (var_eq h9 rfl) fun P => tixN (jat x hx)) (var_eq h11 rfl) rfl rfl (law_bit_eq (by omega) (by have := jlt x hx; omega)))
  have bitL : ∀ (ρ : DL.Env) (x : Nat), x < n → ρ[7]? = some (some cv) → ρ[9]? = some (some (natD x)) → dB (dCall 2 DC.F_law_bit (dACons (dOp2 gIx (dVar 7) (dC (.int 0))) (dACons (dVar 9) dANil))) ρ = .ok (L.testBit x) ρ := fun ρ x hx h7 h9 =>
    bE2 (call2 (op2E (var_eq h7 fcv) cE cv0) (var_eq h9 rfl) rfl rfl (law_bit_eq (by omega) (by omega)))
  have bitF : ∀ (ρ : DL.Env) (y : Nat), y < R → ρ[7]? = some (some cv) → ρ[11]? = some (some (natD y)) → dB (dCall 2 DC.F_law_bit (dACons (dOp2 gIx (dVar 7) (dC (.int 1))) (dACons (dVar 11) dANil))) ρ = .ok (F.testBit y) ρ := fun ρ y hy h7 h11 =>
    bE2 (call2 (op2E (var_eq h7 fcv) cE cv1) (var_eq h11 rfl) rfl rfl (law_bit_eq (by omega) (by omega)))
  -- the cover is one
  refine wp_cutK (fun ρ => ∃ (v9 v11 : Option D), ρ = [some (d0), some (d1), some (natD n), some (natD R), some (natD (2 ^ R)), some (tupN js), some (optT q), some (cv), some (lstN false U), v9, none, v11, none] ∧ ((∀ d, v9 = some d → isF d = true) ∧ ∀ d, v11 = some d → isF d = true)) (fun K hK => ?_) ?_
  · rw [wx, p_For, src_rngN (n := n) (var_eq rfl rfl) (by omega), wo_ok]
    refine wp_forK (fun k ρ => ∃ (v9 v11 : Option D), ρ = [some (d0), some (d1), some (natD n), some (natD R), some (natD (2 ^ R)), some (tupN js), some (optT q), some (cv), some (lstN false U), v9, none, v11, none] ∧ ((∀ d, v9 = some d → isF d = true) ∧ ∀ d, v11 = some d → isF d = true)) ⟨v9, v11, rfl, f9, f11⟩ ?_ ?_
    · rintro x d _ hd ⟨v9, v11, rfl, f9, f11⟩ J hJ
      obtain ⟨hx, rfl⟩ := vec_get' (f := natD) hd
      rw [s_tg1]
      refine ⟨by simp, ?_⟩
      show WP _ (dFor _ _ _ [some (d0), some (d1), some (natD n), some (natD R), some (natD (2 ^ R)), some (tupN js), some (optT q), some (cv), some (lstN false U), some (natD x), none, v11, none])
      rw [p_For, src_rngN (n := R) (var_eq rfl rfl) (by omega), wo_ok]
      refine wp_forK (fun k ρ => ∃ (v11 : Option D), ρ = [some (d0), some (d1), some (natD n), some (natD R), some (natD (2 ^ R)), some (tupN js), some (optT q), some (cv), some (lstN false U), some (natD x), none, v11, none] ∧ (∀ d, v11 = some d → isF d = true)) ⟨v11, rfl, f11⟩ ?_ ?_
      · rintro y d _ hd ⟨v11, rfl, f11⟩ J2 hJ2
        obtain ⟨hy, rfl⟩ := vec_get' (f := natD) hd
        rw [s_tg1]
        refine ⟨by simp, ?_⟩
        show WP _ (dIf _ _ _ [some (d0), some (d1), some (natD n), some (natD R), some (natD (2 ^ R)), some (tupN js), some (optT q), some (cv), some (lstN false U), some (natD x), none, some (natD y), none])
        have t1 := andE (bitJ [some (d0), some (d1), some (natD n), some (natD R), some (natD (2 ^ R)), some (tupN js), some (optT q), some (cv), some (lstN false U), some (natD x), none, some (natD y), none] x y hx hy rfl rfl rfl) fun _ => andE (notE (bitL [some (d0), some (d1), some (natD n), some (natD R), some (natD (2 ^ R)), some (tupN js), some (optT q), some (cv), some (lstN false U), some (natD x), none, some (natD y), none] x hx rfl rfl)) fun _ => notE (bitF [some (d0), some (d1), some (natD n), some (natD R), some (natD (2 ^ R)), some (tupN js), some (optT q), some (cv), some (lstN false U), some (natD x), none, some (natD y), none] y hy rfl rfl)
        rw [covb x y hx hy] at t1
        refine if_no t1 ?_
        exact hJ2 _ ⟨some (natD y), rfl, fun d e => by cases e; rfl⟩
      · rintro _ ⟨v11, rfl, f11⟩
        exact hJ _ ⟨some (natD x), v11, rfl, (fun d e => by cases e; rfl), f11⟩
    · rintro _ ⟨v9, v11, rfl, f9, f11⟩
      exact hK _ ⟨v9, v11, rfl, f9, f11⟩
  clear f9 f11 v9 v11
  rintro _ ⟨v9, v11, rfl, f9, f11⟩
  -- the sizes
  have fL : (List.range n).filter L.testBit = (List.range n).filter fun x => !decide (x ∈ rs) := List.filter_congr fun x hx => by
    rw [Lb, decide_eq_true (List.mem_range.mp hx), Bool.true_and]
  have sz : dOp2 gAdd (dU gLen (dLc [9] (dRng1 (dVar 2)) (tg1 9) (dB (dCall 2 DC.F_law_bit (dACons (dOp2 gIx (dVar 7) (dC (.int 0))) (dACons (dVar 9) dANil)))) (dVar 9))) (dU gLen (dLc [11] (dRng1 (dVar 3)) (tg1 11) (dB (dCall 2 DC.F_law_bit (dACons (dOp2 gIx (dVar 7) (dC (.int 1))) (dACons (dVar 11) dANil)))) (dVar 11))) [some (d0), some (d1), some (natD n), some (natD R), some (natD (2 ^ R)), some (tupN js), some (optT q), some (cv), some (lstN false U), v9, none, v11, none] = .ok (natD U.length) [some (d0), some (d1), some (natD n), some (natD R), some (natD (2 ^ R)), some (tupN js), some (optT q), some (cv), some (lstN false U), v9, none, v11, none] := by
    have s1 : dU gLen (dLc [9] (dRng1 (dVar 2)) (tg1 9) (dB (dCall 2 DC.F_law_bit (dACons (dOp2 gIx (dVar 7) (dC (.int 0))) (dACons (dVar 9) dANil)))) (dVar 9)) [some (d0), some (d1), some (natD n), some (natD R), some (natD (2 ^ R)), some (tupN js), some (optT q), some (cv), some (lstN false U), v9, none, v11, none] = .ok (natD ((List.range n).filter L.testBit).length) [some (d0), some (d1), some (natD n), some (natD R), some (natD (2 ^ R)), some (tupN js), some (optT q), some (cv), some (lstN false U), v9, none, v11, none] := by
      apply out_eq
      rw [w_U]
      refine w_lcNF (l := List.range n) L.testBit natD (fun d h => f9 d (by simpa using h)) (by simp) (src_rngN (n := n) (var_eq rfl rfl) (by omega)) (by simp; omega) (fun x hx => bitL _ x (List.mem_range.mp hx) rfl rfl) (fun x hx _ => var_eq rfl rfl) ?_
      simp [natD]
    have s2 : dU gLen (dLc [11] (dRng1 (dVar 3)) (tg1 11) (dB (dCall 2 DC.F_law_bit (dACons (dOp2 gIx (dVar 7) (dC (.int 1))) (dACons (dVar 11) dANil)))) (dVar 11)) [some (d0), some (d1), some (natD n), some (natD R), some (natD (2 ^ R)), some (tupN js), some (optT q), some (cv), some (lstN false U), v9, none, v11, none] = .ok (natD ((List.range R).filter F.testBit).length) [some (d0), some (d1), some (natD n), some (natD R), some (natD (2 ^ R)), some (tupN js), some (optT q), some (cv), some (lstN false U), v9, none, v11, none] := by
      apply out_eq
      rw [w_U]
      refine w_lcNF (l := List.range R) F.testBit natD (fun d h => f11 d (by simpa using h)) (by simp) (src_rngN (n := R) (var_eq rfl rfl) (by omega)) (by simp; omega) (fun x hx => bitF _ x (List.mem_range.mp hx) rfl rfl) (fun x hx _ => var_eq rfl rfl) ?_
      simp [natD]
    rw [addE s1 s2, fL, kg, ulen]
  refine wp_step fun K hK => ?_
  rw [wx, p_Bind]
  refine wo_of sz ?_
  rw [p_Set]
  refine ⟨by simp, ?_⟩
  apply hK
  clear hK K sz
  have lU : ∀ ρ : DL.Env, ρ[8]? = some (some (lstN false U)) → dU gLen (dVar 8) ρ = .ok (natD U.length) ρ := fun ρ h => uE (var_eq h isF_lstF) fun P => by unfold lstN; simp [natD]
  refine wp_step fun K hK => ?_
  rw [wx]
  have t1 := neN (f := dU gLen (dVar 6)) (g := dVar 2) (a := n) (b := n) (ρ := [some (d0), some (d1), some (natD n), some (natD R), some (natD (2 ^ R)), some (tupN js), some (optT q), some (cv), some (lstN false U), v9, some (natD U.length), v11, none]) (by rw [← ql]; exact uE (var_eq rfl isF_optT) fun P => lenO) (var_eq rfl rfl)
  have t2 := neN (f := dVar 10) (g := dU gLen (dVar 8)) (a := U.length) (b := U.length) (ρ := [some (d0), some (d1), some (natD n), some (natD R), some (natD (2 ^ R)), some (tupN js), some (optT q), some (cv), some (lstN false U), v9, some (natD U.length), v11, none]) (var_eq rfl rfl) (lU _ rfl)
  rw [decide_eq_true rfl] at t1 t2
  refine if_no (or_no t1 t2) ?_
  apply hK
  clear hK K t1 t2
  -- the tests of the program
  have goodM : chkM js q [] = true := by
    refine chkM_ok (fun i y j a b => ?_) fun i i' y a b => ?_
    · have hi' : i < n := by
        have := (List.getElem?_eq_some_iff.mp a).1
        omega
      rw [qat i hi'] at a
      rw [jat i hi'] at b
      cases b
      exact ⟨edge y i ((po_y i y).mp (by simpa using a)), by simp⟩
    · have hi' : i < n := by
        have := (List.getElem?_eq_some_iff.mp a).1
        omega
      have hi2 : i' < n := by
        have := (List.getElem?_eq_some_iff.mp b).1
        omega
      rw [qat i hi'] at a
      rw [qat i' hi2] at b
      have e1 := (po_y i y).mp (by simpa using a)
      have e2 := (po_y i' y).mp (by simpa using b)
      rw [e1] at e2
      cases e2
      rfl
  have goodC : chkC js L F = true := by
    unfold chkC
    rw [List.all_eq_true]
    intro x hx
    have hx := List.mem_range.mp hx
    rw [hjl] at hx
    by_cases hx2 : x ∈ rs
    · rw [Bool.or_eq_true]
      right
      rw [List.all_eq_true]
      intro y hy
      cases e : (js.getD x 0).testBit y with
      | false => rfl
      | true =>
        have hy2 : y < R := by
          cases Nat.lt_or_ge y R with
          | inl h => exact h
          | inr h =>
            have := Nat.testBit_lt_two_pow (x := js.getD x 0) (i := y) (by
              have h1 := hj _ (List.mem_of_getElem? (jat x hx))
              have h2 := Nat.pow_le_pow_right (n := 2) (by decide) h
              omega)
            rw [this] at e
            cases e
        rw [cov.done x hx2 y (List.mem_filter.mpr ⟨List.mem_range.mpr hy2, e⟩)]
        rfl
    · rw [Lb, decide_eq_true hx, decide_eq_false hx2]
      rfl
  have rm := is_matching_eq (js := js) (q := q) (by omega) (by omega)
  rw [goodM, decide_eq_true (by omega)] at rm
  have rc := is_cover_eq (js := js) (L := L) (F := F) (by omega) hj32 (by rw [hjl]; exact Ll) Fl
  rw [goodC, hcv] at rc
  have rm2 := is_matching_eq (js := js) (q := q ++ [none]) (by omega) (by simp; omega)
  rw [decide_eq_false (by simp; omega), Bool.false_and] at rm2
  have e2 : dOp2 gAdd (dVar 6) (dTup (dACons (dU gNeg (dC (.int 1))) dANil)) [some (d0), some (d1), some (natD n), some (natD R), some (natD (2 ^ R)), some (tupN js), some (optT q), some (cv), some (lstN false U), v9, some (natD U.length), v11, none] = .ok (optT (q ++ [none])) [some (d0), some (d1), some (natD n), some (natD R), some (natD (2 ^ R)), some (tupN js), some (optT q), some (cv), some (lstN false U), v9, some (natD U.length), v11, none] := by
    have h1 := catTE (f := dVar 6) (g := dTup (dACons (dU gNeg (dC (.int 1))) dANil)) (ρ := [some (d0), some (d1), some (natD n), some (natD R), some (natD (2 ^ R)), some (tupN js), some (optT q), some (cv), some (lstN false U), v9, some (natD U.length), v11, none]) (xs := q.map oD) (ys := [oD none]) (var_eq rfl isF_optT) (tup1 rfl rfl) (isFL_map fun _ => isF_oD) rfl (by simp; omega)
    rw [h1]
    unfold optT
    rw [List.map_append]
    rfl
  refine wp_step fun K hK => ?_
  rw [wx]
  refine if_no (or_no (notE (b := true) (bE2 (call2 (var_eq rfl isF_tupN) (var_eq rfl isF_optT) isF_tupN isF_optT rm))) (or_no (notE (b := true) (bE2 (call2 (var_eq rfl isF_tupN) (var_eq rfl fcv) isF_tupN fcv rc))) (bE2 (call2 (var_eq rfl isF_tupN) e2 isF_tupN isF_optT rm2)))) ?_
  apply hK
  clear hK K e2
  -- one pair changed
  refine wp_cutK (fun ρ => ∃ (v9 v11 : Option D), ρ = [some (d0), some (d1), some (natD n), some (natD R), some (natD (2 ^ R)), some (tupN js), some (optT q), some (cv), some (lstN false U), v9, some (natD U.length), v11, none]) (fun K hK => ?_) ?_
  · rw [wx, p_For, src_rngN (n := n) (var_eq rfl rfl) (by omega), wo_ok]
    refine wp_forK (fun k ρ => ∃ (v9 v11 : Option D), ρ = [some (d0), some (d1), some (natD n), some (natD R), some (natD (2 ^ R)), some (tupN js), some (optT q), some (cv), some (lstN false U), v9, some (natD U.length), v11, none]) ⟨v9, v11, rfl⟩ ?_ ?_
    · rintro x d _ hd ⟨v9, v11, rfl⟩ J hJ
      obtain ⟨hx, rfl⟩ := vec_get' (f := natD) hd
      rw [s_tg1]
      refine ⟨by simp, ?_⟩
      show WP _ (dFor _ _ _ [some (d0), some (d1), some (natD n), some (natD R), some (natD (2 ^ R)), some (tupN js), some (optT q), some (cv), some (lstN false U), some (natD x), some (natD U.length), v11, none])
      rw [p_For, src_rngN (n := R) (var_eq rfl rfl) (by omega), wo_ok]
      refine wp_forK (fun k ρ => ∃ (v11 : Option D), ρ = [some (d0), some (d1), some (natD n), some (natD R), some (natD (2 ^ R)), some (tupN js), some (optT q), some (cv), some (lstN false U), some (natD x), some (natD U.length), v11, none]) ⟨v11, rfl⟩ ?_ ?_
      · rintro y d _ hd ⟨v11, rfl⟩ J2 hJ2
        obtain ⟨hy, rfl⟩ := vec_get' (f := natD) hd
        rw [s_tg1]
        refine ⟨by simp, ?_⟩
        show WP _ (dIf _ _ _ [some (d0), some (d1), some (natD n), some (natD R), some (natD (2 ^ R)), some (tupN js), some (optT q), some (cv), some (lstN false U), some (natD x), some (natD U.length), some (natD y), none])
        rw [p_If, notE (bitJ [some (d0), some (d1), some (natD n), some (natD R), some (natD (2 ^ R)), some (tupN js), some (optT q), some (cv), some (lstN false U), some (natD x), some (natD U.length), some (natD y), none] x y hx hy rfl rfl rfl), wo_ok]
        cases hb : (js.getD x 0).testBit y with
        | false =>
          rw [if_pos (by rfl)]
          have tl : (q.take x ++ [some y] ++ q.drop (x + 1)).length = n := by
            rw [List.length_append, List.length_append, List.length_take, List.length_drop]
            simp
            omega
          have tx : (q.take x ++ [some y] ++ q.drop (x + 1))[x]? = some (some y) := by
            rw [List.append_assoc, List.getElem?_append_right (by rw [List.length_take]; omega), List.length_take, Nat.min_eq_left (by omega), Nat.sub_self]
            rfl
          have bad := is_matching_eq (js := js) (q := q.take x ++ [some y] ++ q.drop (x + 1)) (by omega) (by omega)
          rw [chkM_bad tx (jat x hx) hb, Bool.and_false] at bad
          have hs1 := slHi (f := dVar 6) (g := dVar 9) (ρ := [some (d0), some (d1), some (natD n), some (natD R), some (natD (2 ^ R)), some (tupN js), some (optT q), some (cv), some (lstN false U), some (natD x), some (natD U.length), some (natD y), none]) (xs := q.map oD) (k := x) (var_eq rfl isF_optT) (var_eq rfl rfl)
          have hs2 := slLo (f := dVar 6) (g := dOp2 gAdd (dVar 9) (dC (.int 1))) (ρ := [some (d0), some (d1), some (natD n), some (natD R), some (natD (2 ^ R)), some (tupN js), some (optT q), some (cv), some (lstN false U), some (natD x), some (natD U.length), some (natD y), none]) (xs := q.map oD) (k := x + 1) (var_eq rfl isF_optT) (addE (var_eq rfl rfl) (b := 1) rfl)
          have ft : ∀ l : List (Option Nat), isFL (l.map oD) = true := fun l => isFL_map fun _ => isF_oD
          rw [← List.map_take] at hs1
          rw [← List.map_drop] at hs2
          have hs3 := catTE hs1 (tup1 (fa := dVar 11) (a := natD y) (var_eq rfl rfl) rfl) (ft _) rfl (by simp; omega)
          have hs4 := catTE hs3 hs2 (by
            have := ft (q.take x ++ [some y])
            rw [List.map_append] at this
            exact this) (ft _) (by simp; omega)
          have e5 : (q.take x).map oD ++ [natD y] ++ (q.drop (x + 1)).map oD = (q.take x ++ [some y] ++ q.drop (x + 1)).map oD := by
            rw [List.map_append, List.map_append]
            rfl
          rw [e5] at hs4
          refine if_no (bE2 (call2 (var_eq rfl isF_tupN) hs4 isF_tupN isF_optT bad)) ?_
          exact hJ2 _ ⟨some (natD y), rfl⟩
        | true =>
          rw [if_neg (by decide)]
          have bad := is_cover_eq (js := js) (L := 0) (F := 0) (by omega) hj32 (Nat.two_pow_pos _) (by decide)
          have : chkC js 0 0 = false := by
            unfold chkC
            rw [List.all_eq_false]
            refine ⟨x, List.mem_range.mpr (by omega), ?_⟩
            rw [Nat.zero_testBit, Bool.false_or, Bool.not_eq_true, List.all_eq_false]
            exact ⟨y, List.mem_range.mpr (by omega), by rw [hb, Nat.zero_testBit]; decide⟩
          rw [this] at bad
          have e0 : dOp2 gSub (dOp2 gIx (dVar 7) (dC (.int 0))) (dOp2 gIx (dVar 7) (dC (.int 0))) [some (d0), some (d1), some (natD n), some (natD R), some (natD (2 ^ R)), some (tupN js), some (optT q), some (cv), some (lstN false U), some (natD x), some (natD U.length), some (natD y), none] = .ok (natD 0) [some (d0), some (d1), some (natD n), some (natD R), some (natD (2 ^ R)), some (tupN js), some (optT q), some (cv), some (lstN false U), some (natD x), some (natD U.length), some (natD y), none] := by
            refine op2E (op2E (var_eq rfl fcv) cE cv0) (op2E (var_eq rfl fcv) cE cv0) fun P => ?_
            show SO (gSub (.a (.int (L : Int))) (.a (.int (L : Int)))) P = P (.a (.int 0))
            simp
          have e1 : dTup (dACons (dOp2 gSub (dOp2 gIx (dVar 7) (dC (.int 0))) (dOp2 gIx (dVar 7) (dC (.int 0)))) (dACons (dC (.int 0)) dANil)) [some (d0), some (d1), some (natD n), some (natD R), some (natD (2 ^ R)), some (tupN js), some (optT q), some (cv), some (lstN false U), some (natD x), some (natD U.length), some (natD y), none] = .ok (.n .tup false [natD 0, natD 0]) [some (d0), some (d1), some (natD n), some (natD R), some (natD (2 ^ R)), some (tupN js), some (optT q), some (cv), some (lstN false U), some (natD x), some (natD U.length), some (natD y), none] := by
            apply out_eq
            rw [w_Tup, ag2 e0 (show dC (.int 0) _ = .ok (natD 0) _ from rfl), wo_ok]
            exact ⟨show 2 ≤ cap by decide, rfl, rfl⟩
          refine if_no (bE2 (call2 (var_eq rfl isF_tupN) e1 isF_tupN rfl bad)) ?_
          exact hJ2 _ ⟨some (natD y), rfl⟩
      · rintro _ ⟨v11, rfl⟩
        exact hJ _ ⟨some (natD x), v11, rfl⟩
    · rintro _ ⟨v9, v11, rfl⟩
      exact hK _ ⟨v9, v11, rfl⟩
  clear f9 f11 v9 v11
  rintro _ ⟨v9, v11, rfl⟩
  have tt : dAndT (dB (dOp2 gGt (dU gLen (dVar 8)) (dC (.int 0)))) (dB (dOp2 gGt (dVar 2) (dC (.int 1)))) [some (d0), some (d1), some (natD n), some (natD R), some (natD (2 ^ R)), some (tupN js), some (optT q), some (cv), some (lstN false U), v9, some (natD U.length), v11, none] = .ok (decide (0 < U.length) && decide (1 < n)) [some (d0), some (d1), some (natD n), some (natD R), some (natD (2 ^ R)), some (tupN js), some (optT q), some (cv), some (lstN false U), v9, some (natD U.length), v11, none] :=
    andE (gtI (lU _ rfl) (b := 0) rfl) fun _ => gtI (var_eq rfl rfl) (b := 1) rfl
  refine wp_step fun K hK => ?_
  rw [wx, p_If, tt, wo_ok]
  by_cases hc : 0 < U.length ∧ 1 < n
  · rw [decide_eq_true hc.1, decide_eq_true hc.2, if_pos (by rfl), p_Bind]
    obtain ⟨u0, hu0⟩ : ∃ u0, U[0]? = some u0 := ⟨_, List.getElem?_eq_getElem hc.1⟩
    have j0 := jat 0 (by omega)
    have bad := is_matching_eq (js := [js.getD 0 0, js.getD 0 0]) (q := [some u0, some u0]) (by simp) (by simp)
    rw [twice, Bool.and_false] at bad
    have e1 : dTup (dACons (dOp2 gIx (dVar 5) (dC (.int 0))) (dACons (dOp2 gIx (dVar 5) (dC (.int 0))) dANil)) [some (d0), some (d1), some (natD n), some (natD R), some (natD (2 ^ R)), some (tupN js), some (optT q), some (cv), some (lstN false U), v9, some (natD U.length), v11, none] = .ok (tupN [js.getD 0 0, js.getD 0 0]) [some (d0), some (d1), some (natD n), some (natD R), some (natD (2 ^ R)), some (tupN js), some (optT q), some (cv), some (lstN false U), v9, some (natD U.length), v11, none] := by
      have g0 : dOp2 gIx (dVar 5) (dC (.int 0)) [some (d0), some (d1), some (natD n), some (natD R), some (natD (2 ^ R)), some (tupN js), some (optT q), some (cv), some (lstN false U), v9, some (natD U.length), v11, none] = .ok (natD (js.getD 0 0)) [some (d0), some (d1), some (natD n), some (natD R), some (natD (2 ^ R)), some (tupN js), some (optT q), some (cv), some (lstN false U), v9, some (natD U.length), v11, none] := op2E (var_eq rfl isF_tupN) cE fun P => tixN j0
      apply out_eq
      rw [w_Tup, ag2 g0 g0, wo_ok]
      exact ⟨show 2 ≤ cap by decide, rfl, rfl⟩
    have e2 : dTup (dACons (dOp2 gIx (dVar 8) (dC (.int 0))) (dACons (dOp2 gIx (dVar 8) (dC (.int 0))) dANil)) [some (d0), some (d1), some (natD n), some (natD R), some (natD (2 ^ R)), some (tupN js), some (optT q), some (cv), some (lstN false U), v9, some (natD U.length), v11, none] = .ok (optT [some u0, some u0]) [some (d0), some (d1), some (natD n), some (natD R), some (natD (2 ^ R)), some (tupN js), some (optT q), some (cv), some (lstN false U), v9, some (natD U.length), v11, none] := by
      have g0 : dOp2 gIx (dVar 8) (dC (.int 0)) [some (d0), some (d1), some (natD n), some (natD R), some (natD (2 ^ R)), some (tupN js), some (optT q), some (cv), some (lstN false U), v9, some (natD U.length), v11, none] = .ok (natD u0) [some (d0), some (d1), some (natD n), some (natD R), some (natD (2 ^ R)), some (tupN js), some (optT q), some (cv), some (lstN false U), v9, some (natD U.length), v11, none] := op2E (var_eq rfl isF_lstF) cE fun P => lixN hu0
      apply out_eq
      rw [w_Tup, ag2 g0 g0, wo_ok]
      exact ⟨show 2 ≤ cap by decide, rfl, rfl⟩
    refine wo_of (notV (call2 e1 e2 isF_tupN isF_optT bad)) ?_
    exact ⟨rfl, rfl⟩
  · have : (decide (0 < U.length) && decide (1 < n)) = false := by
      rw [Bool.eq_false_iff]
      intro h
      rw [Bool.and_eq_true, decide_eq_true_eq, decide_eq_true_eq] at h
      exact hc h
    rw [this, if_neg (by decide)]
    apply hK
    rw [p_Bind, w_C]
    exact ⟨rfl, rfl⟩
end G11
namespace G11
open PySem L2 DL PyProof.Rows
def top (i : Nat) : Stmt := PySem.Challenge.pw_orderforms_k11_whole_matchings_and_cover.main.body.getD i (.Pass ⟨0, 0, 0, 0⟩)
abbrev s_law_numbers : Stmt := top 11
def d_law_numbers : He.DefD := ⟨("_law_numbers", none), "_law_numbers", "_law_numbers", defArgs s_law_numbers, defBody s_law_numbers, defScope s_law_numbers, [], []⟩
abbrev s_law_next : Stmt := top 12
def d_law_next : He.DefD := ⟨("_law_next", none), "_law_next", "_law_next", defArgs s_law_next, defBody s_law_next, defScope s_law_next, [], []⟩
abbrev s_members : Stmt := top 3
def d_members : He.DefD := ⟨("members", none), "members", "members", defArgs s_members, defBody s_members, defScope s_members, [], []⟩
abbrev s_augment : Stmt := top 5
def d_augment : He.DefD := ⟨("augment", none), "augment", "augment", defArgs s_augment, defBody s_augment, defScope s_augment, [], []⟩
abbrev s_largest_matching : Stmt := top 6
def d_largest_matching : He.DefD := ⟨("largest_matching", none), "largest_matching", "largest_matching", defArgs s_largest_matching, defBody s_largest_matching, defScope s_largest_matching, [], []⟩
abbrev s_least_cover : Stmt := top 7
def d_least_cover : He.DefD := ⟨("least_cover", none), "least_cover", "least_cover", defArgs s_least_cover, defBody s_least_cover, defScope s_least_cover, [], []⟩
abbrev s_is_integer : Stmt := top 1
def d_is_integer : He.DefD := ⟨("is_integer", none), "is_integer", "is_integer", defArgs s_is_integer, defBody s_is_integer, defScope s_is_integer, [], []⟩
abbrev s_is_matching : Stmt := top 8
def d_is_matching : He.DefD := ⟨("is_matching", none), "is_matching", "is_matching", defArgs s_is_matching, defBody s_is_matching, defScope s_is_matching, [], []⟩
abbrev s_is_set : Stmt := top 2
def d_is_set : He.DefD := ⟨("is_set", none), "is_set", "is_set", defArgs s_is_set, defBody s_is_set, defScope s_is_set, [], []⟩
abbrev s_is_cover : Stmt := top 9
def d_is_cover : He.DefD := ⟨("is_cover", none), "is_cover", "is_cover", defArgs s_is_cover, defBody s_is_cover, defScope s_is_cover, [], []⟩
abbrev s_law_bit : Stmt := top 13
def d_law_bit : He.DefD := ⟨("_law_bit", none), "_law_bit", "_law_bit", defArgs s_law_bit, defBody s_law_bit, defScope s_law_bit, [], []⟩
abbrev s_law : Stmt := top 14
def d_law : He.DefD := ⟨("law", none), "law", "law", defArgs s_law, defBody s_law, defScope s_law, [], []⟩
def fn : List He.DefD := [d_law_numbers, d_law_next, d_members, d_augment, d_largest_matching, d_least_cover, d_is_integer, d_is_matching, d_is_set, d_is_cover, d_law_bit, d_law]
def fa : List He.Fa := [.free "range", .free "len", .free "min", .free "abs", .free "tuple", .glo "members", .glo "augment", .free "isinstance", .free "int", .free "bool", .glo "is_integer", .glo "is_set", .glo "_law_numbers", .glo "_law_next", .glo "largest_matching", .glo "least_cover", .glo "_law_bit", .glo "is_matching", .glo "is_cover", .glo "law"]
def file : Str := "/claim/cut.py"
def es : List DL.ExD := []
def ys : List DL.Fy := []
structure TX (P : Program) (K : PySem.W.Frag) (mg : Str → Option Value) : Prop where
  says : DL.SaysY file fa fn es ys K
  pf : P.main.file = file
  pt : (P.main.scope.names.lookup ("super" : Str)).isSome = false
  ex : ∃ h : Heap, K.In h ∧ h.Ns mainGlobals mg
section
variable {P : Program} {K : PySem.W.Frag} {mg : Str → Option Value}
theorem TX.d_law_numbers (T : TX P K mg) : ∃ fd, FunD K d_law_numbers.name d_law_numbers.qual d_law_numbers.params d_law_numbers.body d_law_numbers.scope [] [] (He.fAd K d_law_numbers.at_) fd := T.says.d.def_ 0 rfl
theorem TX.d_law_next (T : TX P K mg) : ∃ fd, FunD K d_law_next.name d_law_next.qual d_law_next.params d_law_next.body d_law_next.scope [] [] (He.fAd K d_law_next.at_) fd := T.says.d.def_ 1 rfl
theorem TX.d_members (T : TX P K mg) : ∃ fd, FunD K d_members.name d_members.qual d_members.params d_members.body d_members.scope [] [] (He.fAd K d_members.at_) fd := T.says.d.def_ 2 rfl
theorem TX.d_augment (T : TX P K mg) : ∃ fd, FunD K d_augment.name d_augment.qual d_augment.params d_augment.body d_augment.scope [] [] (He.fAd K d_augment.at_) fd := T.says.d.def_ 3 rfl
theorem TX.d_largest_matching (T : TX P K mg) : ∃ fd, FunD K d_largest_matching.name d_largest_matching.qual d_largest_matching.params d_largest_matching.body d_largest_matching.scope [] [] (He.fAd K d_largest_matching.at_) fd := T.says.d.def_ 4 rfl
theorem TX.d_least_cover (T : TX P K mg) : ∃ fd, FunD K d_least_cover.name d_least_cover.qual d_least_cover.params d_least_cover.body d_least_cover.scope [] [] (He.fAd K d_least_cover.at_) fd := T.says.d.def_ 5 rfl
theorem TX.d_is_integer (T : TX P K mg) : ∃ fd, FunD K d_is_integer.name d_is_integer.qual d_is_integer.params d_is_integer.body d_is_integer.scope [] [] (He.fAd K d_is_integer.at_) fd := T.says.d.def_ 6 rfl
theorem TX.d_is_matching (T : TX P K mg) : ∃ fd, FunD K d_is_matching.name d_is_matching.qual d_is_matching.params d_is_matching.body d_is_matching.scope [] [] (He.fAd K d_is_matching.at_) fd := T.says.d.def_ 7 rfl
theorem TX.d_is_set (T : TX P K mg) : ∃ fd, FunD K d_is_set.name d_is_set.qual d_is_set.params d_is_set.body d_is_set.scope [] [] (He.fAd K d_is_set.at_) fd := T.says.d.def_ 8 rfl
theorem TX.d_is_cover (T : TX P K mg) : ∃ fd, FunD K d_is_cover.name d_is_cover.qual d_is_cover.params d_is_cover.body d_is_cover.scope [] [] (He.fAd K d_is_cover.at_) fd := T.says.d.def_ 9 rfl
theorem TX.d_law_bit (T : TX P K mg) : ∃ fd, FunD K d_law_bit.name d_law_bit.qual d_law_bit.params d_law_bit.body d_law_bit.scope [] [] (He.fAd K d_law_bit.at_) fd := T.says.d.def_ 10 rfl
theorem TX.d_law (T : TX P K mg) : ∃ fd, FunD K d_law.name d_law.qual d_law.params d_law.body d_law.scope [] [] (He.fAd K d_law.at_) fd := T.says.d.def_ 11 rfl
theorem TX.m_range (T : TX P K mg) : mg "range" = none := let ⟨_, X, G⟩ := T.ex; He.free_ok X G (T.says.d.fact 0 rfl)
theorem TX.m_len (T : TX P K mg) : mg "len" = none := let ⟨_, X, G⟩ := T.ex; He.free_ok X G (T.says.d.fact 1 rfl)
theorem TX.m_min (T : TX P K mg) : mg "min" = none := let ⟨_, X, G⟩ := T.ex; He.free_ok X G (T.says.d.fact 2 rfl)
theorem TX.m_abs (T : TX P K mg) : mg "abs" = none := let ⟨_, X, G⟩ := T.ex; He.free_ok X G (T.says.d.fact 3 rfl)
theorem TX.m_tuple (T : TX P K mg) : mg "tuple" = none := let ⟨_, X, G⟩ := T.ex; He.free_ok X G (T.says.d.fact 4 rfl)
theorem TX.m_members (T : TX P K mg) : mg "members" = some (.ref (He.fAd K ("members", none))) ∧ PySem.W.keepIn K (.ref (He.fAd K ("members", none))) = true := let ⟨_, X, G⟩ := T.ex; ⟨He.glo_ok X G (T.says.d.fact 5 rfl), let ⟨_, F⟩ := T.d_members; F.kp⟩
theorem TX.m_augment (T : TX P K mg) : mg "augment" = some (.ref (He.fAd K ("augment", none))) ∧ PySem.W.keepIn K (.ref (He.fAd K ("augment", none))) = true := let ⟨_, X, G⟩ := T.ex; ⟨He.glo_ok X G (T.says.d.fact 6 rfl), let ⟨_, F⟩ := T.d_augment; F.kp⟩
theorem TX.m_isinstance (T : TX P K mg) : mg "isinstance" = none := let ⟨_, X, G⟩ := T.ex; He.free_ok X G (T.says.d.fact 7 rfl)
theorem TX.m_int (T : TX P K mg) : mg "int" = none := let ⟨_, X, G⟩ := T.ex; He.free_ok X G (T.says.d.fact 8 rfl)
theorem TX.m_bool (T : TX P K mg) : mg "bool" = none := let ⟨_, X, G⟩ := T.ex; He.free_ok X G (T.says.d.fact 9 rfl)
theorem TX.m_is_integer (T : TX P K mg) : mg "is_integer" = some (.ref (He.fAd K ("is_integer", none))) ∧ PySem.W.keepIn K (.ref (He.fAd K ("is_integer", none))) = true := let ⟨_, X, G⟩ := T.ex; ⟨He.glo_ok X G (T.says.d.fact 10 rfl), let ⟨_, F⟩ := T.d_is_integer; F.kp⟩
theorem TX.m_is_set (T : TX P K mg) : mg "is_set" = some (.ref (He.fAd K ("is_set", none))) ∧ PySem.W.keepIn K (.ref (He.fAd K ("is_set", none))) = true := let ⟨_, X, G⟩ := T.ex; ⟨He.glo_ok X G (T.says.d.fact 11 rfl), let ⟨_, F⟩ := T.d_is_set; F.kp⟩
theorem TX.m__law_numbers (T : TX P K mg) : mg "_law_numbers" = some (.ref (He.fAd K ("_law_numbers", none))) ∧ PySem.W.keepIn K (.ref (He.fAd K ("_law_numbers", none))) = true := let ⟨_, X, G⟩ := T.ex; ⟨He.glo_ok X G (T.says.d.fact 12 rfl), let ⟨_, F⟩ := T.d_law_numbers; F.kp⟩
theorem TX.m__law_next (T : TX P K mg) : mg "_law_next" = some (.ref (He.fAd K ("_law_next", none))) ∧ PySem.W.keepIn K (.ref (He.fAd K ("_law_next", none))) = true := let ⟨_, X, G⟩ := T.ex; ⟨He.glo_ok X G (T.says.d.fact 13 rfl), let ⟨_, F⟩ := T.d_law_next; F.kp⟩
theorem TX.m_largest_matching (T : TX P K mg) : mg "largest_matching" = some (.ref (He.fAd K ("largest_matching", none))) ∧ PySem.W.keepIn K (.ref (He.fAd K ("largest_matching", none))) = true := let ⟨_, X, G⟩ := T.ex; ⟨He.glo_ok X G (T.says.d.fact 14 rfl), let ⟨_, F⟩ := T.d_largest_matching; F.kp⟩
theorem TX.m_least_cover (T : TX P K mg) : mg "least_cover" = some (.ref (He.fAd K ("least_cover", none))) ∧ PySem.W.keepIn K (.ref (He.fAd K ("least_cover", none))) = true := let ⟨_, X, G⟩ := T.ex; ⟨He.glo_ok X G (T.says.d.fact 15 rfl), let ⟨_, F⟩ := T.d_least_cover; F.kp⟩
theorem TX.m__law_bit (T : TX P K mg) : mg "_law_bit" = some (.ref (He.fAd K ("_law_bit", none))) ∧ PySem.W.keepIn K (.ref (He.fAd K ("_law_bit", none))) = true := let ⟨_, X, G⟩ := T.ex; ⟨He.glo_ok X G (T.says.d.fact 16 rfl), let ⟨_, F⟩ := T.d_law_bit; F.kp⟩
theorem TX.m_is_matching (T : TX P K mg) : mg "is_matching" = some (.ref (He.fAd K ("is_matching", none))) ∧ PySem.W.keepIn K (.ref (He.fAd K ("is_matching", none))) = true := let ⟨_, X, G⟩ := T.ex; ⟨He.glo_ok X G (T.says.d.fact 17 rfl), let ⟨_, F⟩ := T.d_is_matching; F.kp⟩
theorem TX.m_is_cover (T : TX P K mg) : mg "is_cover" = some (.ref (He.fAd K ("is_cover", none))) ∧ PySem.W.keepIn K (.ref (He.fAd K ("is_cover", none))) = true := let ⟨_, X, G⟩ := T.ex; ⟨He.glo_ok X G (T.says.d.fact 18 rfl), let ⟨_, F⟩ := T.d_is_cover; F.kp⟩
end
theorem sc_law_numbers : FnScope ["_law_script", "_law_found", "_law_k", "_law_cell", "_law_turn", "_law_i", "_law_mixed"] ["_law_script"] (defScope s_law_numbers) := ⟨by kernel_rfl, by kernel_rfl, by kernel_rfl, by decide +kernel, by kernel_rfl, by decide +kernel, by decide +kernel⟩
theorem bi_law_numbers (kV doc pm : Value) (an : Option Addr) (cdv ct : Value) (us : List Value) (hl : us.length = (["_law_script"] : List Str).length) : bindArgs (PySem.W.fnOf "_law_numbers" "_law_numbers" (defArgs s_law_numbers) (defBody s_law_numbers) (defScope s_law_numbers) .none kV doc pm an cdv ct) ⟨us, []⟩ = pure ((["_law_script"] : List Str).zip us) := match us, hl with | [_], _ => by kernel_rfl
theorem sc_law_next : FnScope ["_law_numbers_here", "_law_many"] ["_law_numbers_here", "_law_many"] (defScope s_law_next) := ⟨by kernel_rfl, by kernel_rfl, by kernel_rfl, by decide +kernel, by kernel_rfl, by decide +kernel, by decide +kernel⟩
theorem bi_law_next (kV doc pm : Value) (an : Option Addr) (cdv ct : Value) (us : List Value) (hl : us.length = (["_law_numbers_here", "_law_many"] : List Str).length) : bindArgs (PySem.W.fnOf "_law_next" "_law_next" (defArgs s_law_next) (defBody s_law_next) (defScope s_law_next) .none kV doc pm an cdv ct) ⟨us, []⟩ = pure ((["_law_numbers_here", "_law_many"] : List Str).zip us) := match us, hl with | [_, _], _ => by kernel_rfl
theorem sc_members : FnScope ["bits", "x"] ["bits"] (defScope s_members) := ⟨by kernel_rfl, by kernel_rfl, by kernel_rfl, by decide +kernel, by kernel_rfl, by decide +kernel, by decide +kernel⟩
theorem bi_members (kV doc pm : Value) (an : Option Addr) (cdv ct : Value) (us : List Value) (hl : us.length = (["bits"] : List Str).length) : bindArgs (PySem.W.fnOf "members" "members" (defArgs s_members) (defBody s_members) (defScope s_members) .none kV doc pm an cdv ct) ⟨us, []⟩ = pure ((["bits"] : List Str).zip us) := match us, hl with | [_], _ => by kernel_rfl
theorem sc_augment : FnScope ["joined", "owner", "x", "tried", "y", "deeper"] ["joined", "owner", "x", "tried"] (defScope s_augment) := ⟨by kernel_rfl, by kernel_rfl, by kernel_rfl, by decide +kernel, by kernel_rfl, by decide +kernel, by decide +kernel⟩
theorem bi_augment (kV doc pm : Value) (an : Option Addr) (cdv ct : Value) (us : List Value) (hl : us.length = (["joined", "owner", "x", "tried"] : List Str).length) : bindArgs (PySem.W.fnOf "augment" "augment" (defArgs s_augment) (defBody s_augment) (defScope s_augment) .none kV doc pm an cdv ct) ⟨us, []⟩ = pure ((["joined", "owner", "x", "tried"] : List Str).zip us) := match us, hl with | [_, _, _, _], _ => by kernel_rfl
theorem sc_largest_matching : FnScope ["joined", "right", "owner", "x", "matching", "y", "found", "_"] ["joined", "right"] (defScope s_largest_matching) := ⟨by kernel_rfl, by kernel_rfl, by kernel_rfl, by decide +kernel, by kernel_rfl, by decide +kernel, by decide +kernel⟩
theorem bi_largest_matching (kV doc pm : Value) (an : Option Addr) (cdv ct : Value) (us : List Value) (hl : us.length = (["joined", "right"] : List Str).length) : bindArgs (PySem.W.fnOf "largest_matching" "largest_matching" (defArgs s_largest_matching) (defBody s_largest_matching) (defScope s_largest_matching) .none kV doc pm an cdv ct) ⟨us, []⟩ = pure ((["joined", "right"] : List Str).zip us) := match us, hl with | [_, _], _ => by kernel_rfl
theorem sc_least_cover : FnScope ["joined", "right", "matching", "owner", "x", "reached", "right_side", "at", "left_side", "y"] ["joined", "right", "matching"] (defScope s_least_cover) := ⟨by kernel_rfl, by kernel_rfl, by kernel_rfl, by decide +kernel, by kernel_rfl, by decide +kernel, by decide +kernel⟩
theorem bi_least_cover (kV doc pm : Value) (an : Option Addr) (cdv ct : Value) (us : List Value) (hl : us.length = (["joined", "right", "matching"] : List Str).length) : bindArgs (PySem.W.fnOf "least_cover" "least_cover" (defArgs s_least_cover) (defBody s_least_cover) (defScope s_least_cover) .none kV doc pm an cdv ct) ⟨us, []⟩ = pure ((["joined", "right", "matching"] : List Str).zip us) := match us, hl with | [_, _, _], _ => by kernel_rfl
theorem sc_is_integer : FnScope ["value"] ["value"] (defScope s_is_integer) := ⟨by kernel_rfl, by kernel_rfl, by kernel_rfl, by decide +kernel, by kernel_rfl, by decide +kernel, by decide +kernel⟩
theorem bi_is_integer (kV doc pm : Value) (an : Option Addr) (cdv ct : Value) (us : List Value) (hl : us.length = (["value"] : List Str).length) : bindArgs (PySem.W.fnOf "is_integer" "is_integer" (defArgs s_is_integer) (defBody s_is_integer) (defScope s_is_integer) .none kV doc pm an cdv ct) ⟨us, []⟩ = pure ((["value"] : List Str).zip us) := match us, hl with | [_], _ => by kernel_rfl
theorem sc_is_matching : FnScope ["joined", "matching", "used", "x", "y"] ["joined", "matching"] (defScope s_is_matching) := ⟨by kernel_rfl, by kernel_rfl, by kernel_rfl, by decide +kernel, by kernel_rfl, by decide +kernel, by decide +kernel⟩
theorem bi_is_matching (kV doc pm : Value) (an : Option Addr) (cdv ct : Value) (us : List Value) (hl : us.length = (["joined", "matching"] : List Str).length) : bindArgs (PySem.W.fnOf "is_matching" "is_matching" (defArgs s_is_matching) (defBody s_is_matching) (defScope s_is_matching) .none kV doc pm an cdv ct) ⟨us, []⟩ = pure ((["joined", "matching"] : List Str).zip us) := match us, hl with | [_, _], _ => by kernel_rfl
theorem sc_is_set : FnScope ["value", "n"] ["value", "n"] (defScope s_is_set) := ⟨by kernel_rfl, by kernel_rfl, by kernel_rfl, by decide +kernel, by kernel_rfl, by decide +kernel, by decide +kernel⟩
theorem bi_is_set (kV doc pm : Value) (an : Option Addr) (cdv ct : Value) (us : List Value) (hl : us.length = (["value", "n"] : List Str).length) : bindArgs (PySem.W.fnOf "is_set" "is_set" (defArgs s_is_set) (defBody s_is_set) (defScope s_is_set) .none kV doc pm an cdv ct) ⟨us, []⟩ = pure ((["value", "n"] : List Str).zip us) := match us, hl with | [_, _], _ => by kernel_rfl
theorem sc_is_cover : FnScope ["joined", "cover", "left", "right", "x"] ["joined", "cover"] (defScope s_is_cover) := ⟨by kernel_rfl, by kernel_rfl, by kernel_rfl, by decide +kernel, by kernel_rfl, by decide +kernel, by decide +kernel⟩
theorem bi_is_cover (kV doc pm : Value) (an : Option Addr) (cdv ct : Value) (us : List Value) (hl : us.length = (["joined", "cover"] : List Str).length) : bindArgs (PySem.W.fnOf "is_cover" "is_cover" (defArgs s_is_cover) (defBody s_is_cover) (defScope s_is_cover) .none kV doc pm an cdv ct) ⟨us, []⟩ = pure ((["joined", "cover"] : List Str).zip us) := match us, hl with | [_, _], _ => by kernel_rfl
theorem sc_law_bit : FnScope ["_law_bits", "_law_y"] ["_law_bits", "_law_y"] (defScope s_law_bit) := ⟨by kernel_rfl, by kernel_rfl, by kernel_rfl, by decide +kernel, by kernel_rfl, by decide +kernel, by decide +kernel⟩
theorem bi_law_bit (kV doc pm : Value) (an : Option Addr) (cdv ct : Value) (us : List Value) (hl : us.length = (["_law_bits", "_law_y"] : List Str).length) : bindArgs (PySem.W.fnOf "_law_bit" "_law_bit" (defArgs s_law_bit) (defBody s_law_bit) (defScope s_law_bit) .none kV doc pm an cdv ct) ⟨us, []⟩ = pure ((["_law_bits", "_law_y"] : List Str).zip us) := match us, hl with | [_, _], _ => by kernel_rfl
theorem sc_law : FnScope ["_law_script", "_law_numbers_here", "_law_left", "_law_right", "_law_most", "_law_joined", "_law_matching", "_law_cover", "_law_used", "_law_x", "_law_size", "_law_y", "_law_turn"] ["_law_script"] (defScope s_law) := ⟨by kernel_rfl, by kernel_rfl, by kernel_rfl, by decide +kernel, by kernel_rfl, by decide +kernel, by decide +kernel⟩
section
variable {P : Program} {w : World} {K : PySem.W.Frag} {mg : Str → Option Value} {base : Heap}
theorem ok_law_numbers (T : TX P K mg) : OkC P w K mg base (He.fAd K ("_law_numbers", none)) ["_law_script"] 1 (spF K (He.ga K) 1 none DC.F_law_numbers) := fn_okD (kio := none) (body := DC.B_law_numbers) T.d_law_numbers sc_law_numbers bi_law_numbers fun cdv A outer s H E hr =>
  (dss_cons (ds_set (i := 1) sc_law_numbers.nd (by kernel_rfl) (.inl (by kernel_rfl)) (de_lst da_nil))
  (dss_cons (ds_for passes_cx rfl (di_rng1 gl_of T.m_range (de_min2 rfl gl_of T.m_min (de_len gl_of T.m_len PySem.boot_len (dp_de (de_var (pvl 0)))) de_int)) (dg_name (i := 2) sc_law_numbers.nd (by kernel_rfl) (.inl (by kernel_rfl)) (.inl rfl)) (dss_cons (ds_set (i := 3) sc_law_numbers.nd (by kernel_rfl) (.inl (by kernel_rfl)) (de_abs gl_of T.m_abs PyProof.Rows.boot_abs (dp_de (de_ix (de_var (pvl 0)) (de_var (pvl 2))))))
  (dss_one (ds_if (dt_cr cr_ge (de_var (pvl 3)) (de_pow de_int de_int)) (dss_one (ds_for passes_cx rfl (di_rng1 gl_of T.m_range de_int) (dg_name (i := 4) sc_law_numbers.nd (by kernel_rfl) (.inl (by kernel_rfl)) (.inl rfl)) (dss_one (ds_if (dt_cr cr_gt (de_var (pvl 3)) de_int) (dss_cons (ds_append (pvl 1) (de_mod (de_var (pvl 3)) de_int))
  (dss_one (ds_set (i := 3) sc_law_numbers.nd (by kernel_rfl) (.inl (by kernel_rfl)) (de_fdiv (de_var (pvl 3)) de_int)))) dss_nil)) (by decide))) (dss_one (ds_for passes_cx rfl (di_rng1 gl_of T.m_range de_int) (dg_name (i := 5) sc_law_numbers.nd (by kernel_rfl) (.inl (by kernel_rfl)) (.inl rfl)) (dss_cons (ds_set (i := 3) sc_law_numbers.nd (by kernel_rfl) (.inl (by kernel_rfl)) (de_mod (de_add (de_add (de_mul (de_var (pvl 3)) de_int) (de_mul de_int (de_add (de_var (pvl 5)) (de_var (pvl 2))))) de_int) de_int))
  (dss_cons (ds_set (i := 6) sc_law_numbers.nd (by kernel_rfl) (.inl (by kernel_rfl)) (de_mod (de_add (de_mul (de_var (pvl 3)) de_int) (de_fdiv (de_var (pvl 3)) de_int)) de_int))
  (dss_one (ds_append (pvl 1) (de_mod (de_var (pvl 6)) de_int))))) (by decide)))))) (by decide))
  (dss_one (ds_retMv (pvl 1)))))
theorem ok_law_next (T : TX P K mg) : OkC P w K mg base (He.fAd K ("_law_next", none)) ["_law_numbers_here", "_law_many"] 1 (spF K (He.ga K) 2 (some 0) DC.F_law_next) := fn_okD (kio := (some 0)) (body := DC.B_law_next) T.d_law_next sc_law_next bi_law_next fun cdv A outer s H E hr =>
  (dss_cons (ds_if (dt_cr (cr_eq hr.units) (de_len gl_of T.m_len PySem.boot_len (dp_peek (pvl 0))) de_int) (dss_one (ds_ret de_int)) dss_nil)
  (dss_one (ds_ret (de_mod (de_popAt (pvl 0) de_int) (de_var (pvl 1))))))
theorem ok_members (T : TX P K mg) : OkC P w K mg base (He.fAd K ("members", none)) ["bits"] 1 (spF K (He.ga K) 1 none DC.F_members) := fn_okD (kio := none) (body := DC.B_members) T.d_members sc_members bi_members fun cdv A outer s H E hr =>
  (dss_one (ds_ret (de_tuple gl_of T.m_tuple PySem.Pv.boot_tuple (dp_de (de_lc (own := [("x", 1)]) rfl sc_members.nd (di_rng1 gl_of T.m_range (de_bits (de_var (pvc 0)))) (blkOk_by (by kernel_rfl)) (by decide) (fun _ _ _ _ _ => (dg_name (i := 1) sc_members.nd (by kernel_rfl) (.inl (by kernel_rfl)) (.inr (by kernel_rfl)))) (fun _ _ _ _ _ => (dts_one (dt_cr (cr_eq hr.units) (de_and (de_shr (de_var (pvc 0)) (de_var (pvl 1))) de_int) de_int))) (fun _ _ _ _ _ => (de_var (pvl 1))))))))
theorem okr_augment (T : TX P K mg) : ∀ m, OkC P w K mg base (He.fAd K ("augment", none)) ["joined", "owner", "x", "tried"] (1 + m) (spF K (He.ga K) 4 (some 3) (DC.R_augment m))
  | 0 => okC_st (k := 0) (m := 0) T.d_augment sc_augment bi_augment
  | m + 1 => fn_okD (k := 1 + m) (kio := (some 3)) (body := DC.B_augment (DC.R_augment m)) T.d_augment sc_augment bi_augment fun cdv A outer s H E hr =>
  (dss_cons (ds_for passes_cx rfl (di_of (de_callG (ok_members T) (hr.mono (by omega)) gl_of T.m_members takes_cx (da_cons (de_ix (de_var (pvl 0)) (de_var (pvl 2))) da_nil))) (dg_name (i := 4) sc_augment.nd (by kernel_rfl) (.inl (by kernel_rfl)) (.inl rfl)) (dss_one (ds_if (dt_notin (room_u1 hr) (de_var (pvl 4)) (dp_peek (pvl 3))) (dss_cons (ds_append (pvl 3) (de_var (pvl 4)))
  (dss_cons (ds_if (dt_dnotin (room_u0 hr) (pvl 1) (de_var (pvl 4))) (dss_one (ds_ret (de_dispS (pvl 1) (pvl 4) (pvl 2)))) dss_nil)
  (dss_cons (ds_set (i := 5) sc_augment.nd (by kernel_rfl) (.inl (by kernel_rfl)) (de_fz (de_callLG (okr_augment T m) (hr.mono (by omega)) gl_of T.m_augment takes_cx (da_cons (de_var (pvl 0)) (da_cons (de_var (pvl 1)) (da_cons (de_dget (room_u0 hr) (pvl 1) (de_var (pvl 4))) (da_lent (pvl 3) da_nil)))))))
  (dss_one (ds_if (dt_cr cr_isnot (de_var (pvl 5)) de_non) (dss_one (ds_ret (de_dispS (pvl 5) (pvl 4) (pvl 2)))) dss_nil))))) dss_nil)) (by decide))
  (dss_one (ds_ret de_non)))
theorem ok_augment (T : TX P K mg) : OkC P w K mg base (He.fAd K ("augment", none)) ["joined", "owner", "x", "tried"] 13 (spF K (He.ga K) 4 (some 3) DC.F_augment) := okr_augment T 12
theorem ok_largest_matching (T : TX P K mg) : OkC P w K mg base (He.fAd K ("largest_matching", none)) ["joined", "right"] 14 (spF K (He.ga K) 2 none DC.F_largest_matching) := fn_okD (kio := none) (body := DC.B_largest_matching) T.d_largest_matching sc_largest_matching bi_largest_matching fun cdv A outer s H E hr =>
  (dss_cons (ds_set (i := 2) sc_largest_matching.nd (by kernel_rfl) (.inl (by kernel_rfl)) (de_fz de_dict0))
  (dss_cons (ds_for passes_cx rfl (di_rng1 gl_of T.m_range (de_len gl_of T.m_len PySem.boot_len (dp_de (de_var (pvl 0))))) (dg_name (i := 3) sc_largest_matching.nd (by kernel_rfl) (.inl (by kernel_rfl)) (.inl rfl)) (dss_cons (ds_set (i := 6) sc_largest_matching.nd (by kernel_rfl) (.inl (by kernel_rfl)) (de_fz (de_callNG (ok_augment T) (hr.mono (by decide)) gl_of T.m_augment takes_cx (da_cons (de_var (pvl 0)) (da_cons (de_var (pvl 2)) (da_cons (de_var (pvl 3)) (da_cons (de_lst da_nil) da_nil)))))))
  (dss_one (ds_if (dt_cr cr_isnot (de_var (pvl 6)) de_non) (dss_one (ds_set (i := 2) sc_largest_matching.nd (by kernel_rfl) (.inl (by kernel_rfl)) (de_var (pvl 6)))) dss_nil))) (by decide))
  (dss_cons (ds_setLc (i := 4) (own := [("_", 7)]) rfl sc_largest_matching.nd (by kernel_rfl) (by kernel_rfl) (sw_true (by kernel_rfl) (by kernel_rfl) (by kernel_rfl) (by kernel_rfl)) (di_of (de_var (pvl 0))) (blkOk_by (by kernel_rfl)) (by decide) (fun _ _ _ _ _ => (dg_name (i := 7) sc_largest_matching.nd (by kernel_rfl) (.inl (by kernel_rfl)) (.inr (by kernel_rfl)))) (fun _ _ _ _ _ => dts_nil) (fun _ _ _ _ _ => (de_neg de_int)))
  (dss_cons (ds_frzN 4 (ds_for passes_cx rfl (di_rng1 gl_of T.m_range (de_var (pvl 1))) (dg_name (i := 5) sc_largest_matching.nd (by kernel_rfl) (.inl (by kernel_rfl)) (.inl rfl)) (dss_one (ds_if (dt_din (room_u0 hr) (pvl 2) (de_var (pvl 5))) (dss_one (ds_sub (de_var (pvl 5)) (pvl 4) (de_dget (room_u0 hr) (pvl 2) (de_var (pvl 5))))) dss_nil)) (by decide)))
  (dss_one (ds_ret (de_tuple gl_of T.m_tuple PySem.Pv.boot_tuple (dp_de (de_var (pvl 4))))))))))
theorem ok_least_cover (T : TX P K mg) : OkC P w K mg base (He.fAd K ("least_cover", none)) ["joined", "right", "matching"] 2 (spF K (He.ga K) 3 none DC.F_least_cover) := fn_okD (kio := none) (body := DC.B_least_cover) T.d_least_cover sc_least_cover bi_least_cover fun cdv A outer s H E hr =>
  (dss_cons (ds_set (i := 3) sc_least_cover.nd (by kernel_rfl) (.inl (by kernel_rfl)) de_dict0)
  (dss_cons (ds_frzN 3 (ds_for passes_cx rfl (di_rng1 gl_of T.m_range (de_len gl_of T.m_len PySem.boot_len (dp_de (de_var (pvc 2))))) (dg_name (i := 4) sc_least_cover.nd (by kernel_rfl) (.inl (by kernel_rfl)) (.inl rfl)) (dss_one (ds_if (dt_cr cr_ge (de_ix (de_var (pvc 2)) (de_var (pvl 4))) de_int) (dss_one (ds_dput (room_u0 hr) (de_var (pvl 4)) (pvl 3) (de_ix (de_var (pvc 2)) (de_var (pvl 4))))) dss_nil)) (by decide)))
  (dss_cons (ds_frzN 5 (ds_setLc (i := 5) (own := [("x", 4)]) rfl sc_least_cover.nd (by kernel_rfl) (by kernel_rfl) (sw_true (by kernel_rfl) (by kernel_rfl) (by kernel_rfl) (by kernel_rfl)) (di_rng1 gl_of T.m_range (de_len gl_of T.m_len PySem.boot_len (dp_de (de_var (pvc 2))))) (blkOk_by (by kernel_rfl)) (by decide) (fun _ _ _ _ _ => (dg_name (i := 4) sc_least_cover.nd (by kernel_rfl) (.inl (by kernel_rfl)) (.inr (by kernel_rfl)))) (fun _ _ _ _ _ => (dts_one (dt_cr cr_lt (de_ix (de_var (pvc 2)) (de_var (pvl 4))) de_int))) (fun _ _ _ _ _ => (de_var (pvl 4)))))
  (dss_cons (ds_set (i := 6) sc_least_cover.nd (by kernel_rfl) (.inl (by kernel_rfl)) de_int)
  (dss_cons (ds_set (i := 7) sc_least_cover.nd (by kernel_rfl) (.inl (by kernel_rfl)) de_int)
  (dss_cons (ds_while 100000 passes_cx (dt_cr cr_lt (de_var (pvl 7)) (de_len gl_of T.m_len PySem.boot_len (dp_de (de_var (pvl 5))))) (dss_cons (ds_for passes_cx rfl (di_of (de_callG (ok_members T) (hr.mono (by decide)) gl_of T.m_members takes_cx (da_cons (de_ix (de_var (pvl 0)) (de_ix (de_var (pvl 5)) (de_var (pvl 7)))) da_nil))) (dg_name (i := 9) sc_least_cover.nd (by kernel_rfl) (.inl (by kernel_rfl)) (.inl rfl)) (dss_one (ds_if (dt_cr (cr_eq hr.units) (de_and (de_var (pvl 6)) (de_shl de_int (de_var (pvl 9)))) de_int) (dss_cons (ds_set (i := 6) sc_least_cover.nd (by kernel_rfl) (.inl (by kernel_rfl)) (de_or (de_var (pvl 6)) (de_shl de_int (de_var (pvl 9)))))
  (dss_one (ds_if (dt_w (dw_and (dt_din (room_u0 hr) (pvl 3) (de_var (pvl 9))) (dw_and1 (dt_notin (room_u1 hr) (de_dget (room_u0 hr) (pvl 3) (de_var (pvl 9))) (dp_de (de_var (pvl 5))))))) (dss_one (ds_set (i := 5) sc_least_cover.nd (by kernel_rfl) (.inl (by kernel_rfl)) (de_fz (de_add (de_var (pvl 5)) (de_lst (da_cons (de_dget (room_u0 hr) (pvl 3) (de_var (pvl 9))) da_nil)))))) dss_nil))) dss_nil)) (by decide))
  (dss_one (ds_aug (i := 7) sc_least_cover.nd (by kernel_rfl) (.inl (by kernel_rfl)) de_int ip_add))))
  (dss_cons (ds_set (i := 8) sc_least_cover.nd (by kernel_rfl) (.inl (by kernel_rfl)) de_int)
  (dss_cons (ds_for passes_cx rfl (di_rng1 gl_of T.m_range (de_len gl_of T.m_len PySem.boot_len (dp_de (de_var (pvc 2))))) (dg_name (i := 4) sc_least_cover.nd (by kernel_rfl) (.inl (by kernel_rfl)) (.inl rfl)) (dss_one (ds_if (dt_notin (room_u1 hr) (de_var (pvl 4)) (dp_de (de_var (pvl 5)))) (dss_one (ds_set (i := 8) sc_least_cover.nd (by kernel_rfl) (.inl (by kernel_rfl)) (de_or (de_var (pvl 8)) (de_shl de_int (de_var (pvl 4)))))) dss_nil)) (by decide))
  (dss_one (ds_ret (de_tup (da_cons (de_var (pvl 8)) (da_cons (de_var (pvl 6)) da_nil)))))))))))))
theorem ok_is_integer (T : TX P K mg) : OkC P w K mg base (He.fAd K ("is_integer", none)) ["value"] 1 (spF K (He.ga K) 1 none DC.F_is_integer) := fn_okD (kio := none) (body := DC.B_is_integer) T.d_is_integer sc_is_integer bi_is_integer fun cdv A outer s H E hr =>
  (dss_one (ds_ret (de_and2 (de_isi (T := "int") gl_of T.m_isinstance gl_of T.m_int PySem.Pv.boot_int (by decide) (dp_de (de_var (pvl 0)))) (de_one (de_notV (de_isi (T := "bool") gl_of T.m_isinstance gl_of T.m_bool PySem.Pv.boot_bool (by decide) (dp_de (de_var (pvl 0)))))))))
theorem ok_is_matching (T : TX P K mg) : OkC P w K mg base (He.fAd K ("is_matching", none)) ["joined", "matching"] 2 (spF K (He.ga K) 2 none DC.F_is_matching) := fn_okD (kio := none) (body := DC.B_is_matching) T.d_is_matching sc_is_matching bi_is_matching fun cdv A outer s H E hr =>
  (dss_cons (ds_set (i := 2) sc_is_matching.nd (by kernel_rfl) (.inl (by kernel_rfl)) (de_lst da_nil))
  (dss_cons (ds_if (dt_w (dw_or (dt_not (dt_val (de_isi (T := "tuple") gl_of T.m_isinstance gl_of T.m_tuple PySem.Pv.boot_tuple (by decide) (dp_de (de_var (pvl 1)))))) (dw_or1 (dt_cr (cr_ne hr.units) (de_len gl_of T.m_len PySem.boot_len (dp_de (de_var (pvl 1)))) (de_len gl_of T.m_len PySem.boot_len (dp_de (de_var (pvl 0)))))))) (dss_one (ds_ret de_bl)) dss_nil)
  (dss_cons (ds_frzN 2 (ds_for passes_cx rfl (di_rng1 gl_of T.m_range (de_len gl_of T.m_len PySem.boot_len (dp_de (de_var (pvl 1))))) (dg_name (i := 3) sc_is_matching.nd (by kernel_rfl) (.inl (by kernel_rfl)) (.inl rfl)) (dss_cons (ds_set (i := 4) sc_is_matching.nd (by kernel_rfl) (.inl (by kernel_rfl)) (de_ix (de_var (pvl 1)) (de_var (pvl 3))))
  (dss_cons (ds_if (dt_w (dw_or (dt_not (dt_val (de_callG (ok_is_integer T) (hr.mono (by decide)) gl_of T.m_is_integer takes_cx (da_cons (de_var (pvl 4)) da_nil)))) (dw_or1 (dt_cr cr_lt (de_var (pvl 4)) (de_neg de_int))))) (dss_one (ds_ret de_bl)) dss_nil)
  (dss_one (ds_if (dt_cr cr_ge (de_var (pvl 4)) de_int) (dss_cons (ds_if (dt_w (dw_or (dt_cr (cr_eq hr.units) (de_and (de_shr (de_ix (de_var (pvl 0)) (de_var (pvl 3))) (de_var (pvl 4))) de_int) de_int) (dw_or1 (dt_in (room_u1 hr) (de_var (pvl 4)) (dp_peek (pvl 2)))))) (dss_one (ds_ret de_bl)) dss_nil)
  (dss_one (ds_append (pvl 2) (de_var (pvl 4))))) dss_nil)))) (by decide)))
  (dss_one (ds_ret de_bl)))))
theorem ok_is_set (T : TX P K mg) : OkC P w K mg base (He.fAd K ("is_set", none)) ["value", "n"] 2 (spF K (He.ga K) 2 none DC.F_is_set) := fn_okD (kio := none) (body := DC.B_is_set) T.d_is_set sc_is_set bi_is_set fun cdv A outer s H E hr =>
  (dss_one (ds_ret (de_and2 (de_callG (ok_is_integer T) (hr.mono (by decide)) gl_of T.m_is_integer takes_cx (da_cons (de_var (pvl 0)) da_nil)) (de_one (de_chain cr_le cr_lt de_int (de_var (pvl 0)) (de_shl de_int (de_var (pvl 1))))))))
theorem ok_is_cover (T : TX P K mg) : OkC P w K mg base (He.fAd K ("is_cover", none)) ["joined", "cover"] 3 (spF K (He.ga K) 2 none DC.F_is_cover) := fn_okD (kio := none) (body := DC.B_is_cover) T.d_is_cover sc_is_cover bi_is_cover fun cdv A outer s H E hr =>
  (dss_cons (ds_if (dt_w (dw_or (dt_not (dt_val (de_isi (T := "tuple") gl_of T.m_isinstance gl_of T.m_tuple PySem.Pv.boot_tuple (by decide) (dp_de (de_var (pvl 1)))))) (dw_or1 (dt_cr (cr_ne hr.units) (de_len gl_of T.m_len PySem.boot_len (dp_de (de_var (pvl 1)))) de_int)))) (dss_one (ds_ret de_bl)) dss_nil)
  (dss_cons (ds_asg (dg_tup rfl (.cons (pg_name (i := 2) sc_is_cover.nd (by kernel_rfl) (.inl (by kernel_rfl)) (.inl rfl)) (.cons (pg_name (i := 3) sc_is_cover.nd (by kernel_rfl) (.inl (by kernel_rfl)) (.inl rfl)) .nil (by kernel_rfl)) (by kernel_rfl)) rfl) (de_fz (de_var (pvl 1))) (by decide))
  (dss_cons (ds_if (dt_w (dw_or (dt_not (dt_val (de_callG (ok_is_set T) (hr.mono (by decide)) gl_of T.m_is_set takes_cx (da_cons (de_var (pvl 2)) (da_cons (de_len gl_of T.m_len PySem.boot_len (dp_de (de_var (pvl 0)))) da_nil))))) (dw_or (dt_not (dt_val (de_callG (ok_is_integer T) (hr.mono (by decide)) gl_of T.m_is_integer takes_cx (da_cons (de_var (pvl 3)) da_nil)))) (dw_or1 (dt_cr cr_lt (de_var (pvl 3)) de_int))))) (dss_one (ds_ret de_bl)) dss_nil)
  (dss_cons (ds_for passes_cx rfl (di_rng1 gl_of T.m_range (de_len gl_of T.m_len PySem.boot_len (dp_de (de_var (pvl 0))))) (dg_name (i := 4) sc_is_cover.nd (by kernel_rfl) (.inl (by kernel_rfl)) (.inl rfl)) (dss_one (ds_if (dt_w (dw_and (dt_cr (cr_eq hr.units) (de_and (de_var (pvl 2)) (de_shl de_int (de_var (pvl 4)))) de_int) (dw_and1 (dt_cr (cr_ne hr.units) (de_and (de_ix (de_var (pvl 0)) (de_var (pvl 4))) (de_inv (de_var (pvl 3)))) de_int)))) (dss_one (ds_ret de_bl)) dss_nil)) (by decide))
  (dss_one (ds_ret de_bl))))))
theorem ok_law_bit (T : TX P K mg) : OkC P w K mg base (He.fAd K ("_law_bit", none)) ["_law_bits", "_law_y"] 1 (spF K (He.ga K) 2 none DC.F_law_bit) := fn_okD (kio := none) (body := DC.B_law_bit) T.d_law_bit sc_law_bit bi_law_bit fun cdv A outer s H E hr =>
  (dss_one (ds_ret (de_cr (cr_eq hr.units) (de_mod (de_fdiv (de_var (pvl 0)) (de_ix (de_lst (da_cons de_int (da_cons de_int (da_cons de_int (da_cons de_int (da_cons de_int (da_cons de_int da_nil))))))) (de_var (pvl 1)))) de_int) de_int)))
theorem ok_law (T : TX P K mg) {fd : FuncData} {fa : Addr} (FD : FunD K d_law.name d_law.qual d_law.params d_law.body d_law.scope [] [] fa fd) : FnOk P w K mg base (L2.CX P w) 15 fa fd ["_law_script"] (spF K (He.ga K) 1 none F_law) := fn_okF (kio := none) (body := B_law) FD sc_law fun cdv A outer s H E hr =>
  (dss_cons (ds_set (i := 1) sc_law.nd (by kernel_rfl) (.inr (by kernel_rfl)) (de_callG (ok_law_numbers T) (hr.mono (by decide)) gl_of T.m__law_numbers takes_cx (da_cons (de_var (pvl 0)) da_nil)))
  (dss_cons (ds_set (i := 2) sc_law.nd (by kernel_rfl) (.inl (by kernel_rfl)) (de_callLG (ok_law_next T) (hr.mono (by decide)) gl_of T.m__law_next takes_cx (da_lent (pvc 1) (da_cons de_int da_nil))))
  (dss_cons (ds_set (i := 3) sc_law.nd (by kernel_rfl) (.inl (by kernel_rfl)) (de_callLG (ok_law_next T) (hr.mono (by decide)) gl_of T.m__law_next takes_cx (da_lent (pvc 1) (da_cons de_int da_nil))))
  (dss_cons (ds_set (i := 4) sc_law.nd (by kernel_rfl) (.inr (by kernel_rfl)) (de_ix (de_lst (da_cons de_int (da_cons de_int (da_cons de_int (da_cons de_int (da_cons de_int (da_cons de_int da_nil))))))) (de_var (pvl 3))))
  (dss_cons (ds_frzN 1 (ds_set (i := 5) sc_law.nd (by kernel_rfl) (.inl (by kernel_rfl)) (de_tuple gl_of T.m_tuple PySem.Pv.boot_tuple (dp_de (de_lc (own := [("_law_turn", 12)]) rfl sc_law.nd (di_rng1 gl_of T.m_range (de_var (pvl 2))) (blkOk_by (by kernel_rfl)) (by decide) (fun _ _ _ _ _ => (dg_name (i := 12) sc_law.nd (by kernel_rfl) (.inl (by kernel_rfl)) (.inr (by kernel_rfl)))) (fun _ _ _ _ _ => dts_nil) (fun _ _ _ _ _ => (de_callLG (ok_law_next T) (hr.mono (by decide)) gl_of T.m__law_next takes0 (da_lent (pvc 1) (da_cons (de_var (pvc 4)) da_nil)))))))))
  (dss_cons (ds_set (i := 6) sc_law.nd (by kernel_rfl) (.inl (by kernel_rfl)) (de_callG (ok_largest_matching T) (hr.mono (by decide)) gl_of T.m_largest_matching takes_cx (da_cons (de_var (pvl 5)) (da_cons (de_var (pvl 3)) da_nil))))
  (dss_cons (ds_set (i := 7) sc_law.nd (by kernel_rfl) (.inr (by kernel_rfl)) (de_callG (ok_least_cover T) (hr.mono (by decide)) gl_of T.m_least_cover takes_cx (da_cons (de_var (pvl 5)) (da_cons (de_var (pvl 3)) (da_cons (de_var (pvl 6)) da_nil)))))
  (dss_cons (ds_set (i := 8) sc_law.nd (by kernel_rfl) (.inl (by kernel_rfl)) (de_lst da_nil))
  (dss_cons (ds_frzN 8 (ds_for passes_cx rfl (di_rng1 gl_of T.m_range (de_var (pvl 2))) (dg_name (i := 9) sc_law.nd (by kernel_rfl) (.inl (by kernel_rfl)) (.inl rfl)) (dss_cons (ds_set (i := 11) sc_law.nd (by kernel_rfl) (.inl (by kernel_rfl)) (de_ix (de_var (pvl 6)) (de_var (pvl 9))))
  (dss_one (ds_if (dt_cr (cr_ne hr.units) (de_var (pvl 11)) (de_neg de_int)) (dss_cons (ds_if (dt_w (dw_or (dt_cr cr_lt (de_var (pvl 11)) de_int) (dw_or (dt_cr cr_ge (de_var (pvl 11)) (de_var (pvl 3))) (dw_or (dt_not (dt_val (de_callG (ok_law_bit T) (hr.mono (by decide)) gl_of T.m__law_bit takes_cx (da_cons (de_ix (de_var (pvl 5)) (de_var (pvl 9))) (da_cons (de_var (pvl 11)) da_nil))))) (dw_or1 (dt_in (room_u1 hr) (de_var (pvl 11)) (dp_peek (pvl 8)))))))) (dss_one (ds_ret de_bl)) dss_nil)
  (dss_one (ds_append (pvl 8) (de_var (pvl 11))))) dss_nil))) (by decide)))
  (dss_cons (ds_for passes_cx rfl (di_rng1 gl_of T.m_range (de_var (pvl 2))) (dg_name (i := 9) sc_law.nd (by kernel_rfl) (.inl (by kernel_rfl)) (.inl rfl)) (dss_one (ds_for passes_cx rfl (di_rng1 gl_of T.m_range (de_var (pvl 3))) (dg_name (i := 11) sc_law.nd (by kernel_rfl) (.inl (by kernel_rfl)) (.inl rfl)) (dss_one (ds_if (dt_w (dw_and (dt_val (de_callG (ok_law_bit T) (hr.mono (by decide)) gl_of T.m__law_bit takes_cx (da_cons (de_ix (de_var (pvl 5)) (de_var (pvl 9))) (da_cons (de_var (pvl 11)) da_nil)))) (dw_and (dt_not (dt_val (de_callG (ok_law_bit T) (hr.mono (by decide)) gl_of T.m__law_bit takes_cx (da_cons (de_ix (de_var (pvc 7)) de_int) (da_cons (de_var (pvl 9)) da_nil))))) (dw_and1 (dt_not (dt_val (de_callG (ok_law_bit T) (hr.mono (by decide)) gl_of T.m__law_bit takes_cx (da_cons (de_ix (de_var (pvc 7)) de_int) (da_cons (de_var (pvl 11)) da_nil))))))))) (dss_one (ds_ret de_bl)) dss_nil)) (by decide))) (by decide))
  (dss_cons (ds_set (i := 10) sc_law.nd (by kernel_rfl) (.inl (by kernel_rfl)) (de_add (de_len gl_of T.m_len PySem.boot_len (dp_de (de_lc (own := [("_law_x", 9)]) rfl sc_law.nd (di_rng1 gl_of T.m_range (de_var (pvl 2))) (blkOk_by (by kernel_rfl)) (by decide) (fun _ _ _ _ _ => (dg_name (i := 9) sc_law.nd (by kernel_rfl) (.inl (by kernel_rfl)) (.inr (by kernel_rfl)))) (fun _ _ _ _ _ => (dts_one (dt_val (de_callG (ok_law_bit T) (hr.mono (by decide)) gl_of T.m__law_bit takes0 (da_cons (de_ix (de_var (pvc 7)) de_int) (da_cons (de_var (pvl 9)) da_nil)))))) (fun _ _ _ _ _ => (de_var (pvl 9)))))) (de_len gl_of T.m_len PySem.boot_len (dp_de (de_lc (own := [("_law_y", 11)]) rfl sc_law.nd (di_rng1 gl_of T.m_range (de_var (pvl 3))) (blkOk_by (by kernel_rfl)) (by decide) (fun _ _ _ _ _ => (dg_name (i := 11) sc_law.nd (by kernel_rfl) (.inl (by kernel_rfl)) (.inr (by kernel_rfl)))) (fun _ _ _ _ _ => (dts_one (dt_val (de_callG (ok_law_bit T) (hr.mono (by decide)) gl_of T.m__law_bit takes0 (da_cons (de_ix (de_var (pvc 7)) de_int) (da_cons (de_var (pvl 11)) da_nil)))))) (fun _ _ _ _ _ => (de_var (pvl 11))))))))
  (dss_cons (ds_if (dt_w (dw_or (dt_cr (cr_ne hr.units) (de_len gl_of T.m_len PySem.boot_len (dp_de (de_var (pvl 6)))) (de_var (pvl 2))) (dw_or1 (dt_cr (cr_ne hr.units) (de_var (pvl 10)) (de_len gl_of T.m_len PySem.boot_len (dp_de (de_var (pvl 8)))))))) (dss_one (ds_ret de_bl)) dss_nil)
  (dss_cons (ds_if (dt_w (dw_or (dt_not (dt_val (de_callG (ok_is_matching T) (hr.mono (by decide)) gl_of T.m_is_matching takes_cx (da_cons (de_var (pvl 5)) (da_cons (de_var (pvl 6)) da_nil))))) (dw_or (dt_not (dt_val (de_callG (ok_is_cover T) (hr.mono (by decide)) gl_of T.m_is_cover takes_cx (da_cons (de_var (pvl 5)) (da_cons (de_var (pvc 7)) da_nil))))) (dw_or1 (dt_val (de_callG (ok_is_matching T) (hr.mono (by decide)) gl_of T.m_is_matching takes_cx (da_cons (de_var (pvl 5)) (da_cons (de_add (de_var (pvl 6)) (de_tup (da_cons (de_neg de_int) da_nil))) da_nil)))))))) (dss_one (ds_ret de_bl)) dss_nil)
  (dss_cons (ds_for passes_cx rfl (di_rng1 gl_of T.m_range (de_var (pvl 2))) (dg_name (i := 9) sc_law.nd (by kernel_rfl) (.inl (by kernel_rfl)) (.inl rfl)) (dss_one (ds_for passes_cx rfl (di_rng1 gl_of T.m_range (de_var (pvl 3))) (dg_name (i := 11) sc_law.nd (by kernel_rfl) (.inl (by kernel_rfl)) (.inl rfl)) (dss_one (ds_if (dt_not (dt_val (de_callG (ok_law_bit T) (hr.mono (by decide)) gl_of T.m__law_bit takes_cx (da_cons (de_ix (de_var (pvl 5)) (de_var (pvl 9))) (da_cons (de_var (pvl 11)) da_nil))))) (dss_one (ds_if (dt_val (de_callG (ok_is_matching T) (hr.mono (by decide)) gl_of T.m_is_matching takes_cx (da_cons (de_var (pvl 5)) (da_cons (de_add (de_add (de_slice (de_var (pvl 6)) do_none (do_some (de_var (pvl 9)))) (de_tup (da_cons (de_var (pvl 11)) da_nil))) (de_slice (de_var (pvl 6)) (do_some (de_add (de_var (pvl 9)) de_int)) do_none)) da_nil)))) (dss_one (ds_ret de_bl)) dss_nil)) (dss_one (ds_if (dt_val (de_callG (ok_is_cover T) (hr.mono (by decide)) gl_of T.m_is_cover takes_cx (da_cons (de_var (pvl 5)) (da_cons (de_tup (da_cons (de_sub (de_ix (de_var (pvc 7)) de_int) (de_ix (de_var (pvc 7)) de_int)) (da_cons de_int da_nil))) da_nil)))) (dss_one (ds_ret de_bl)) dss_nil)))) (by decide))) (by decide))
  (dss_cons (ds_if (dt_w (dw_and (dt_cr cr_gt (de_len gl_of T.m_len PySem.boot_len (dp_de (de_var (pvl 8)))) de_int) (dw_and1 (dt_cr cr_gt (de_var (pvl 2)) de_int)))) (dss_one (ds_ret (de_notV (de_callG (ok_is_matching T) (hr.mono (by decide)) gl_of T.m_is_matching takes_cx (da_cons (de_tup (da_cons (de_ix (de_var (pvl 5)) de_int) (da_cons (de_ix (de_var (pvl 5)) de_int) da_nil))) (da_cons (de_tup (da_cons (de_ix (de_var (pvl 8)) de_int) (da_cons (de_ix (de_var (pvl 8)) de_int) da_nil))) da_nil)))))) dss_nil)
  (dss_one (ds_ret de_bl)))))))))))))))))
end
end G11
namespace G11
open PySem L2 DL PyProof.Rows
def names0 : List PySem.Str := ["is_integer", "is_set", "members", "augment", "largest_matching", "least_cover", "is_matching", "is_cover", "_law_numbers", "_law_next", "_law_bit"]
def names : List PySem.Str := names0
abbrev R : PySem.W.OpenRow := PySem.W.OpenLaw.row PySem.Challenge.rw_orderforms_k11_whole_matchings_and_cover
abbrev hk : PySem.W.Hook := DL.hookY 6 file fa fn es ys
def ob (s : PySem.W.SharedT) : DL.AlY := DL.obsYG 6 file fa fn es ys (HandSHeadRun.getT s)
theorem ob_eq (s : PySem.W.SharedT) : ob s = hk.obs s.abs := DL.obsYG_eq (HandSHeadRun.getT_eq s)
theorem run (w : World) : HandSHeadRun.RunEq R (PySem.W.view R.prog [14]) hk ob 6000 names w := by
  intro os
  kernel_rfl
theorem facts {P : Program} {w : World} {K : PySem.W.Frag} {h : Heap} {mg : Str → Option Value} {f : Addr} (X : K.In h) (G : h.Ns mainGlobals mg) (hfa : mg ("law" : Str) = some (.ref f)) (c : DL.SaysY file fa fn es ys K) (hpf : P.main.file = file) (hpt : (P.main.scope.names.lookup ("super" : Str)).isSome = false) :
    ∃ fd : FuncData, (∀ (s : Shared) (v : Value), BindsTo s fd ⟨[v], []⟩ [("_law_script", v)]) ∧ ∀ base : Heap, K.In base → base.Ns mainGlobals mg → FnOk P w K mg base (L2.CX P w) 15 f fd ["_law_script"] (spF K (He.ga K) 1 none F_law) := by
  have T : TX P K mg := ⟨c, hpf, hpt, h, X, G⟩
  obtain ⟨fd, F⟩ := T.d_law
  have e := hfa.symm.trans (He.glo_ok X G (c.d.fact 19 (f := .glo "law") rfl))
  cases e
  have b := FunD.bindsA (ps := ["_law_script"]) F fun _ _ _ _ _ _ us hl => match us, hl with | [_], _ => by kernel_rfl
  exact ⟨fd, fun s v => b s [v] rfl, fun base _ _ => ok_law T F⟩
end G11
open PySem PySem.W PySem.Calls PyProof.Rows
set_option maxRecDepth 100000 in
set_option maxHeartbeats 0 in
theorem PySem.Challenge.cw_orderforms_k11_whole_matchings_and_cover_holds : PySem.Challenge.rw_orderforms_k11_whole_matchings_and_cover.Holds := by
  w_on; o_law
  refine HandSHeadRun.head_any (r := OpenLaw.row PySem.Challenge.rw_orderforms_k11_whole_matchings_and_cover) (q := view (OpenLaw.row PySem.Challenge.rw_orderforms_k11_whole_matchings_and_cover).prog [14]) (H := G11.hk) (ob := G11.ob) (M := 6000) (loose := G11.names) (d := HandSHeadRun.topDef (OpenLaw.row PySem.Challenge.rw_orderforms_k11_whole_matchings_and_cover).prog 14) (kwd := []) G11.ob_eq
    (by kernel_rfl) (fun s => by kernel_rfl) G11.run (by kernel_rfl) (by kernel_rfl) (by kernel_rfl) (by rfl) (by first | assumption | decide +kernel) (by decide +kernel) ⟨rfl, rfl, rfl, rfl, rfl, by decide +kernel⟩ ?hw ?hc
  case hw => w_witness2
  case hc =>
    refine DL.law_end (l := PySem.Challenge.rw_orderforms_k11_whole_matchings_and_cover) (k := 15) (x := "_law_script") (cA := He.ga) (F := G11.F_law) rfl (by kernel_rfl) ⟨rfl, by decide, by decide⟩ ?HF G11.law_true
    intro w mg fa h Y G hmg0
    obtain ⟨K, KX, c⟩ := Y
    have hmg : mg ("law" : PySem.Str) = some (.ref fa) := by
      have e : (HandSHeadRun.topDef (OpenLaw.row PySem.Challenge.rw_orderforms_k11_whole_matchings_and_cover).prog 14).name = ("law" : PySem.Str) := by kernel_rfl
      rw [← e]
      exact hmg0
    obtain ⟨fd, hb, hF⟩ := G11.facts (P := (PySem.Challenge.rw_orderforms_k11_whole_matchings_and_cover).prog) (w := w) KX G hmg c (by kernel_rfl) (by kernel_rfl)
    exact ⟨K, fd, KX, hb, hF⟩
