import PyProof.Rows.All
import Wide.All
import OpenK.AllK
import Wide.FinOn
import HandS.ForMost
import HandS.ForExc
import HandS.Deep
import HandS.TupAny
import HandS.Style
import HandS.WideBits
import HandS.IsInst
import HandS.Text
import HandS.Iter
import HandS.HeadEnd
import HandS.HeadHook2
import HandS.EndBits
import HandS.SortInts
import HandS.Conv
import HandS.More
import HandS.Head0
import HandS.Head1
import HandS.Head2
import HandS.Nested
import HandS.ExcInit
import KE.KExcSuper
import HandS.TryMany
import HandS.ExcField
import HandS.ExcIs
import HandS.ExcOwn
import HandS.Strs
import HandS.List
import OpenK.KMeth
import KE.KOpsOwn
import KE.OsArith
import KE.BitLaws
import KE.IntBitsLaws
import PySem.Challenge.RW_orderforms_k25_incidence_functions
import HandS.HeadHook1
set_option Elab.async false
set_option linter.all false
set_option maxRecDepth 100000
set_option maxHeartbeats 0
namespace DL
open PySem L2

/-! ### data -/
inductive At where
  | non | bl (b : Bool) | int (i : Int) | str (s : Str)
  deriving DecidableEq
def At.v : At → V
  | .non => V.non
  | .bl b => V.bl b
  | .int i => V.int i
  | .str s => V.str s
inductive Kd where
  | tup | lst | scr | dct (ks : List Key) | ins (C : Str) (fs : List Str)
  deriving DecidableEq
inductive D where
  | a (x : At)
  | n (k : Kd) (o : Bool) (xs : List D)
abbrev D.int (i : Int) : D := .a (.int i)
abbrev D.bl (b : Bool) : D := .a (.bl b)
abbrev D.str (s : Str) : D := .a (.str s)
abbrev D.non : D := .a .non
abbrev D.tup (xs : List D) : D := .n .tup false xs
abbrev D.lst (o : Bool) (xs : List D) : D := .n .lst o xs
abbrev D.scr (xs : List D) : D := .n .scr false xs
mutual
def frz : D → D
  | .a x => .a x
  | .n k _ xs => .n k false (frzL xs)
def frzL : List D → List D
  | [] => []
  | x :: xs => frz x :: frzL xs
end
mutual
def isF : D → Bool
  | .a _ => true
  | .n _ o xs => !o && isFL xs
def isFL : List D → Bool
  | [] => true
  | x :: xs => isF x && isFL xs
end
mutual
theorem isF_frz : ∀ d : D, isF (frz d) = true
  | .a _ => rfl
  | .n k o xs => by
    show (!false && isFL (frzL xs)) = true
    rw [isFL_frzL xs]; rfl
theorem isFL_frzL : ∀ xs : List D, isFL (frzL xs) = true
  | [] => rfl
  | x :: xs => by
    show (isF (frz x) && isFL (frzL xs)) = true
    rw [isF_frz x, isFL_frzL xs]; rfl
end
mutual
theorem frz_isF : ∀ d : D, isF d = true → frz d = d
  | .a _, _ => rfl
  | .n k o xs, h => by
    have h : (!o && isFL xs) = true := h
    rw [Bool.and_eq_true] at h
    have ho : o = false := by simpa using h.1
    subst ho
    show D.n k false (frzL xs) = _
    rw [frzL_isFL xs h.2]
theorem frzL_isFL : ∀ xs : List D, isFL xs = true → frzL xs = xs
  | [], _ => rfl
  | x :: xs, h => by
    have h : (isF x && isFL xs) = true := h
    rw [Bool.and_eq_true] at h
    show frz x :: frzL xs = _
    rw [frz_isF x h.1, frzL_isFL xs h.2]
end

/-! ### the ghost: Z frozen addresses, L owned ones -/
abbrev FP := List Addr
abbrev ZS := Addr → Prop
def KT (K : PySem.W.Frag) (a : Addr) (xs : List V) : Prop :=
  ∃ (o : Obj) (its : Array Value) (n : Nat), K.lookup a = some o ∧ o.cls = .type "tuple" ∧ o.data = .seq its n ∧ its.size ≤ sizeLine ∧ Vals xs its.toList
def KLs (K : PySem.W.Frag) (a : Addr) (xs : List V) : Prop :=
  ∃ (o : Obj) (its : Array Value) (n : Nat), K.lookup a = some o ∧ o.cls = .type "list" ∧ o.dict = none ∧ o.data = .seq its n ∧ its.size ≤ sizeLine ∧ Vals xs its.toList
/-- what stands at p -/
def Cont (K : PySem.W.Frag) (cA : Str → Addr) (H : Hp) (Z : ZS) (p : Addr) (vs : List V) : Kd → Bool → Prop
  | .tup, o => o = false ∧ ((Z p ∧ Rd H p (.tup vs)) ∨ KT K p vs)
  | .scr, o => o = false ∧ ((Z p ∧ Rd H p (.lst vs)) ∨ KLs K p vs)
  | .lst, o => H p = some (.lst vs) ∧ (o = false → Z p)
  | .dct ks, o => H p = some (.dK (ks.zip vs)) ∧ ks.length = vs.length ∧ (o = false → Z p)
  | .ins C fs, o => (∃ dx, H p = some (.ins (cA C) dx (fs.zip vs))) ∧ (fs.length = vs.length ∧ Cls K (cA C) ∧ ∀ f ∈ fs, NoAttr K (cA C) f) ∧ (o = false → Z p)
section
variable (K : PySem.W.Frag) (cA : Str → Addr) (H : Hp) (Z : ZS)
mutual
def RepD : D → V → FP → Prop
  | .a x, v, fp => v = x.v ∧ fp = []
  | .n k o xs, v, fp => ∃ p vs g, v = .ref p ∧ RepL xs vs g ∧ Cont K cA H Z p vs k o ∧ fp = (if o then p :: g else []) ∧ (o = false → g = [])
def RepL : List D → List V → FP → Prop
  | [], vs, g => vs = [] ∧ g = []
  | x :: xs, vs, g => ∃ v vs' f1 f2, vs = v :: vs' ∧ RepD x v f1 ∧ RepL xs vs' f2 ∧ g = f1 ++ f2
end
end
section
variable {K : PySem.W.Frag} {cA : Str → Addr} {H H' : Hp} {Z Z' : ZS}
theorem rd_mono {p : Addr} {u : HO} (hk : ∀ o, H p = some o → H' p = some o) (h : Rd H p u) : Rd H' p u := by
  rcases h with h | ⟨o, h⟩
  · exact .inl (hk _ h)
  · exact .inr ⟨o, hk _ h⟩
theorem cont_mono {p : Addr} {vs : List V} {k : Kd} {o : Bool} (hz : ∀ a, Z a → Z' a) (hk : ∀ u, (Z p ∨ o = true) → H p = some u → H' p = some u) (h : Cont K cA H Z p vs k o) : Cont K cA H' Z' p vs k o := by
  have h1 : (o = false → Z p) → ∀ u, H p = some u → H' p = some u := fun z u e => by
    cases o with
    | true => exact hk u (.inr rfl) e
    | false => exact hk u (.inl (z rfl)) e
  cases k with
  | tup =>
    obtain ⟨ho, h⟩ := h
    refine ⟨ho, ?_⟩
    rcases h with ⟨z, r⟩ | h
    · exact .inl ⟨hz _ z, rd_mono (fun u e => hk u (.inl z) e) r⟩
    · exact .inr h
  | scr =>
    obtain ⟨ho, h⟩ := h
    refine ⟨ho, ?_⟩
    rcases h with ⟨z, r⟩ | h
    · exact .inl ⟨hz _ z, rd_mono (fun u e => hk u (.inl z) e) r⟩
    · exact .inr h
  | lst =>
    obtain ⟨e, z⟩ := h
    exact ⟨h1 z _ e, fun q => hz _ (z q)⟩
  | dct ks =>
    obtain ⟨e, l, z⟩ := h
    exact ⟨h1 z _ e, l, fun q => hz _ (z q)⟩
  | ins C fs =>
    obtain ⟨⟨dx, e⟩, l, z⟩ := h
    exact ⟨⟨dx, h1 z _ e⟩, l, fun q => hz _ (z q)⟩
mutual
theorem repD_mono : ∀ (d : D) {v : V} {fp : FP}, (∀ a, Z a → Z' a) → (∀ a o, (Z a ∨ a ∈ fp) → H a = some o → H' a = some o) → RepD K cA H Z d v fp → RepD K cA H' Z' d v fp
  | .a x, _, _, _, _, h => h
  | .n k o xs, v, fp, hz, hk, h => by
    obtain ⟨p, vs, g, e, hl, hc, ef, hg⟩ := h
    subst ef
    refine ⟨p, vs, g, e, repL_mono xs hz (fun a u m => hk a u ?_) hl, cont_mono hz (fun u m => hk p u ?_) hc, rfl, hg⟩
    · cases o with
      | true => exact m.imp id fun z => by simp [z]
      | false =>
        rw [hg rfl] at m
        exact m.imp id fun z => by simp at z
    · exact m.imp id fun z => by simp [z]
theorem repL_mono : ∀ (xs : List D) {vs : List V} {fp : FP}, (∀ a, Z a → Z' a) → (∀ a o, (Z a ∨ a ∈ fp) → H a = some o → H' a = some o) → RepL K cA H Z xs vs fp → RepL K cA H' Z' xs vs fp
  | [], _, _, _, _, h => h
  | x :: xs, vs, fp, hz, hk, h => by
    obtain ⟨v, vs', f1, f2, e, h1, h2, ef⟩ := h
    subst ef
    exact ⟨v, vs', f1, f2, e, repD_mono x hz (fun a u m => hk a u (m.imp id fun z => by simp [z])) h1, repL_mono xs hz (fun a u m => hk a u (m.imp id fun z => by simp [z])) h2, rfl⟩
end
mutual
/-- what is owned is tracked -/
theorem repD_trk : ∀ (d : D) {v : V} {fp : FP}, RepD K cA H Z d v fp → ∀ a ∈ fp, ∃ o, H a = some o
  | .a x, _, _, h, a, ha => by
    rw [h.2] at ha; cases ha
  | .n k o xs, v, fp, h, a, ha => by
    obtain ⟨p, vs, g, e, hl, hc, ef, hg⟩ := h
    subst ef
    cases o with
    | false => simp at ha
    | true =>
      rcases List.mem_cons.mp ha with rfl | ha
      · cases k with
        | tup => exact absurd hc.1 (by decide)
        | scr => exact absurd hc.1 (by decide)
        | lst => exact ⟨_, hc.1⟩
        | dct ks => exact ⟨_, hc.1⟩
        | ins C fs => exact let ⟨dx, e⟩ := hc.1; ⟨_, e⟩
      · exact repL_trk xs hl a ha
theorem repL_trk : ∀ (xs : List D) {vs : List V} {fp : FP}, RepL K cA H Z xs vs fp → ∀ a ∈ fp, ∃ o, H a = some o
  | [], _, _, h, a, ha => by
    rw [h.2] at ha; cases ha
  | x :: xs, vs, fp, h, a, ha => by
    obtain ⟨v, vs', f1, f2, e, h1, h2, ef⟩ := h
    subst ef
    rcases List.mem_append.mp ha with ha | ha
    · exact repD_trk x h1 a ha
    · exact repL_trk xs h2 a ha
end
mutual
theorem repD_isF : ∀ (d : D) {v : V} {fp : FP}, RepD K cA H Z d v fp → isF d = true → fp = []
  | .a x, _, _, h, _ => h.2
  | .n k o xs, v, fp, h, hf => by
    obtain ⟨p, vs, g, e, hl, hc, ef, hg⟩ := h
    have hf : (!o && isFL xs) = true := hf
    rw [Bool.and_eq_true] at hf
    have ho : o = false := by simpa using hf.1
    subst ho
    exact ef
theorem repL_isF : ∀ (xs : List D) {vs : List V} {fp : FP}, RepL K cA H Z xs vs fp → isFL xs = true → fp = []
  | [], _, _, h, _ => h.2
  | x :: xs, vs, fp, h, hf => by
    obtain ⟨v, vs', f1, f2, e, h1, h2, ef⟩ := h
    have hf : (isF x && isFL xs) = true := hf
    rw [Bool.and_eq_true] at hf
    rw [ef, repD_isF x h1 hf.1, repL_isF xs h2 hf.2]; rfl
end
mutual
/-- freezing -/
theorem repD_frz : ∀ (d : D) {v : V} {fp : FP}, (∀ a, Z a → Z' a) → (∀ a ∈ fp, Z' a) → RepD K cA H Z d v fp → RepD K cA H Z' (frz d) v []
  | .a x, _, _, _, _, h => ⟨h.1, rfl⟩
  | .n k o xs, v, fp, hz, hf, h => by
    obtain ⟨p, vs, g, e, hl, hc, ef, hg⟩ := h
    subst ef
    have hgz : ∀ a ∈ g, Z' a := fun a ha => by
      cases o with
      | true => exact hf a (by simp [ha])
      | false => rw [hg rfl] at ha; cases ha
    have hp : o = true → Z' p := fun e => hf p (by simp [e])
    refine ⟨p, vs, [], e, repL_frz xs hz hgz hl, ?_, rfl, fun _ => rfl⟩
    have key : (o = false → Z p) → Z' p := fun z => by
      cases o with
      | true => exact hp rfl
      | false => exact hz _ (z rfl)
    cases k with
    | tup =>
      obtain ⟨_, h⟩ := hc
      refine ⟨rfl, ?_⟩
      rcases h with ⟨z, r⟩ | h
      · exact .inl ⟨hz _ z, r⟩
      · exact .inr h
    | scr =>
      obtain ⟨_, h⟩ := hc
      refine ⟨rfl, ?_⟩
      rcases h with ⟨z, r⟩ | h
      · exact .inl ⟨hz _ z, r⟩
      · exact .inr h
    | lst => exact ⟨hc.1, fun _ => key hc.2⟩
    | dct ks => exact ⟨hc.1, hc.2.1, fun _ => key hc.2.2⟩
    | ins C fs => exact ⟨hc.1, hc.2.1, fun _ => key hc.2.2⟩
theorem repL_frz : ∀ (xs : List D) {vs : List V} {fp : FP}, (∀ a, Z a → Z' a) → (∀ a ∈ fp, Z' a) → RepL K cA H Z xs vs fp → RepL K cA H Z' (frzL xs) vs []
  | [], _, _, _, _, h => ⟨h.1, rfl⟩
  | x :: xs, vs, fp, hz, hf, h => by
    obtain ⟨v, vs', f1, f2, e, h1, h2, ef⟩ := h
    subst ef
    exact ⟨v, vs', [], [], e, repD_frz x hz (fun a ha => hf a (by simp [ha])) h1, repL_frz xs hz (fun a ha => hf a (by simp [ha])) h2, rfl⟩
end
theorem repL_len : ∀ {xs : List D} {vs : List V} {fp : FP}, RepL K cA H Z xs vs fp → vs.length = xs.length
  | [], _, _, h => by rw [h.1]; rfl
  | x :: xs, vs, fp, h => by
    obtain ⟨v, vs', f1, f2, e, h1, h2, ef⟩ := h
    rw [e, List.length_cons, List.length_cons, repL_len h2]
theorem repL_get : ∀ {xs : List D} {vs : List V} {fp : FP} {i : Nat} {d : D}, RepL K cA H Z xs vs fp → xs[i]? = some d → ∃ v f0 f1 f2, vs[i]? = some v ∧ RepD K cA H Z d v f1 ∧ fp = f0 ++ f1 ++ f2
  | [], _, _, _, _, _, e => by simp at e
  | x :: xs, vs, fp, 0, d, h, e => by
    obtain ⟨v, vs', f1, f2, ev, h1, h2, ef⟩ := h
    simp at e; subst e
    exact ⟨v, [], f1, f2, by rw [ev]; rfl, h1, by simpa using ef⟩
  | x :: xs, vs, fp, i + 1, d, h, e => by
    obtain ⟨v, vs', f1, f2, ev, h1, h2, ef⟩ := h
    obtain ⟨w, g0, g1, g2, hw, hr, hg⟩ := repL_get (i := i) h2 (by simpa using e)
    refine ⟨w, f1 ++ g0, g1, g2, by rw [ev]; simpa using hw, hr, ?_⟩
    rw [ef, hg]; simp
theorem repL_append : ∀ {xs ys : List D} {vs ws : List V} {f g : FP}, RepL K cA H Z xs vs f → RepL K cA H Z ys ws g → RepL K cA H Z (xs ++ ys) (vs ++ ws) (f ++ g)
  | [], ys, vs, ws, f, g, h, k => by
    rw [h.1, h.2]; exact k
  | x :: xs, ys, vs, ws, f, g, h, k => by
    obtain ⟨v, vs', f1, f2, ev, h1, h2, ef⟩ := h
    exact ⟨v, vs' ++ ws, f1, f2 ++ g, by rw [ev]; rfl, h1, repL_append h2 k, by rw [ef]; simp⟩
theorem repL_one {d : D} {v : V} {fp : FP} (h : RepD K cA H Z d v fp) : RepL K cA H Z [d] [v] fp := ⟨v, [], fp, [], rfl, h, ⟨rfl, rfl⟩, by simp⟩
end

/-! ### states -/
structure Wf (H : Hp) (Z : ZS) (L : FP) : Prop where
  nd : L.Nodup
  dj : ∀ a ∈ L, ¬ Z a
  tz : ∀ a, Z a → ∃ o, H a = some o
/-- from (H, Z, L) to (H', Z', L') -/
structure Fr (H : Hp) (Z : ZS) (L : FP) (H' : Hp) (Z' : ZS) (L' : FP) : Prop where
  keep : ∀ a o, H a = some o → a ∉ L → H' a = some o
  zm : ∀ a, Z a → Z' a
  zs : ∀ a, Z' a → Z a ∨ a ∈ L ∨ H a = none
  ls : ∀ a ∈ L', a ∈ L ∨ H a = none
section
variable {K : PySem.W.Frag} {cA : Str → Addr} {H H1 H2 : Hp} {Z Z1 Z2 : ZS} {L L1 L2 M fp : FP}
theorem Fr.refl : Fr H Z L H Z L := ⟨fun _ _ e _ => e, fun _ z => z, fun _ z => .inl z, fun _ h => .inl h⟩
theorem Fr.trans (a : Fr H Z L H1 Z1 L1) (b : Fr H1 Z1 L1 H2 Z2 L2) : Fr H Z L H2 Z2 L2 where
  keep := fun x o e h => b.keep x o (a.keep x o e h) fun m => by
    rcases a.ls x m with z | z
    · exact h z
    · rw [z] at e; cases e
  zm := fun x z => b.zm x (a.zm x z)
  zs := fun x z => by
    rcases b.zs x z with q | q | q
    · exact a.zs x q
    · exact .inr (a.ls x q)
    · by_cases hx : x ∈ L
      · exact .inr (.inl hx)
      · refine .inr (.inr ?_)
        cases e : H x with
        | none => rfl
        | some o => rw [a.keep x o e hx] at q; cases q
  ls := fun x m => by
    rcases b.ls x m with q | q
    · exact a.ls x q
    · by_cases hx : x ∈ L
      · exact .inl hx
      · refine .inr ?_
        cases e : H x with
        | none => rfl
        | some o => rw [a.keep x o e hx] at q; cases q
/-- less is owned at the end -/
theorem Fr.less (a : Fr H Z L H1 Z1 L1) (h : ∀ x ∈ M, x ∈ L1) : Fr H Z L H1 Z1 M := ⟨a.keep, a.zm, a.zs, fun x m => a.ls x (h x m)⟩
/-- more was owned ahead -/
theorem Fr.more (a : Fr H Z L H1 Z1 L1) (h : ∀ x ∈ L, x ∈ M) : Fr H Z M H1 Z1 L1 :=
  ⟨fun x o e n => a.keep x o e fun m => n (h x m), a.zm, fun x z => (a.zs x z).imp id (fun q => q.imp (h x) id), fun x m => (a.ls x m).imp (h x) id⟩
theorem Wf.less (w : Wf H Z L) (h : M.Sublist L) : Wf H Z M := ⟨w.nd.sublist h, fun a m => w.dj a (h.subset m), w.tz⟩
theorem Wf.perm (w : Wf H Z L) (h : L.Perm M) : Wf H Z M := ⟨h.nodup_iff.mp w.nd, fun a m => w.dj a (h.mem_iff.mpr m), w.tz⟩
/-- what waits (fp: tracked, not among L, not in Z) stays, and is apart from what comes -/
theorem Wf.wait (w : Wf H1 Z1 (fp ++ L1)) (ht : ∀ a ∈ fp, ∃ o, H1 a = some o) (f : Fr H1 Z1 L1 H2 Z2 M) (w2 : Wf H2 Z2 M) : Wf H2 Z2 (fp ++ M) := by
  have nd := List.nodup_append.mp w.nd
  refine ⟨List.nodup_append.mpr ⟨nd.1, w2.nd, fun a ha b hb e => ?_⟩, fun a ha => ?_, w2.tz⟩
  · subst e
    rcases f.ls a hb with q | q
    · exact nd.2.2 a ha a q rfl
    · obtain ⟨o, e⟩ := ht a ha; rw [q] at e; cases e
  · rcases List.mem_append.mp ha with ha | ha
    · intro z
      rcases f.zs a z with q | q | q
      · exact w.dj a (by simp [ha]) q
      · exact nd.2.2 a ha a q rfl
      · obtain ⟨o, e⟩ := ht a ha; rw [q] at e; cases e
    · exact w2.dj a ha
theorem Fr.wait (w : Wf H1 Z1 (fp ++ L1)) (a : Fr H Z L H1 Z1 (fp ++ L1)) (f : Fr H1 Z1 L1 H2 Z2 M) : Fr H Z L H2 Z2 (fp ++ M) := by
  have b : Fr H1 Z1 (fp ++ L1) H2 Z2 (fp ++ M) := ⟨fun x o e n => f.keep x o e fun m => n (by simp [m]), f.zm, fun x z => (f.zs x z).imp id (fun q => q.imp (fun m => by simp [m]) id), fun x m => by
    rcases List.mem_append.mp m with m | m
    · exact .inl (by simp [m])
    · exact (f.ls x m).imp (fun m => by simp [m]) id⟩
  exact a.trans b
theorem repD_wait {d : D} {v : V} (w : Wf H1 Z1 (fp ++ L1)) (h : RepD K cA H1 Z1 d v fp) (f : Fr H1 Z1 L1 H2 Z2 M) : RepD K cA H2 Z2 d v fp := by
  have nd := List.nodup_append.mp w.nd
  refine repD_mono d f.zm (fun a o m e => f.keep a o e fun q => ?_) h
  rcases m with m | m
  · exact w.dj a (by simp [q]) m
  · exact nd.2.2 a m a q rfl
theorem repL_wait {xs : List D} {vs : List V} (w : Wf H1 Z1 (fp ++ L1)) (h : RepL K cA H1 Z1 xs vs fp) (f : Fr H1 Z1 L1 H2 Z2 M) : RepL K cA H2 Z2 xs vs fp := by
  have nd := List.nodup_append.mp w.nd
  refine repL_mono xs f.zm (fun a o m e => f.keep a o e fun q => ?_) h
  rcases m with m | m
  · exact w.dj a (by simp [q]) m
  · exact nd.2.2 a m a q rfl
end

/-! ### slots -/
abbrev Env := List (Option D)
section
variable (K : PySem.W.Frag) (cA : Str → Addr) (H : Hp) (Z : ZS)
def RelL : Env → L2.St → FP → Prop
  | [], σ, fp => σ = [] ∧ fp = []
  | none :: ρ, σ, fp => ∃ x σ', σ = x :: σ' ∧ RelL ρ σ' fp
  | some d :: ρ, σ, fp => ∃ v σ' f1 f2, σ = some v :: σ' ∧ RepD K cA H Z d v f1 ∧ RelL ρ σ' f2 ∧ fp = f1 ++ f2
end
section
variable {K : PySem.W.Frag} {cA : Str → Addr} {H H' : Hp} {Z Z' : ZS}
theorem relL_mono : ∀ {ρ : Env} {σ : L2.St} {fp : FP}, (∀ a, Z a → Z' a) → (∀ a o, (Z a ∨ a ∈ fp) → H a = some o → H' a = some o) → RelL K cA H Z ρ σ fp → RelL K cA H' Z' ρ σ fp
  | [], _, _, _, _, h => h
  | none :: ρ, σ, fp, hz, hk, h => let ⟨x, σ', e, r⟩ := h; ⟨x, σ', e, relL_mono hz hk r⟩
  | some d :: ρ, σ, fp, hz, hk, h => by
    obtain ⟨v, σ', f1, f2, e, h1, h2, ef⟩ := h
    subst ef
    exact ⟨v, σ', f1, f2, e, repD_mono d hz (fun a u m => hk a u (m.imp id fun z => by simp [z])) h1, relL_mono hz (fun a u m => hk a u (m.imp id fun z => by simp [z])) h2, rfl⟩
theorem relL_len : ∀ {ρ : Env} {σ : L2.St} {fp : FP}, RelL K cA H Z ρ σ fp → σ.length = ρ.length
  | [], _, _, h => by rw [h.1]; rfl
  | none :: ρ, σ, fp, h => by
    obtain ⟨x, σ', e, r⟩ := h
    rw [e, List.length_cons, List.length_cons, relL_len r]
  | some d :: ρ, σ, fp, h => by
    obtain ⟨v, σ', f1, f2, e, h1, h2, ef⟩ := h
    rw [e, List.length_cons, List.length_cons, relL_len h2]
theorem relL_trk : ∀ {ρ : Env} {σ : L2.St} {fp : FP}, RelL K cA H Z ρ σ fp → ∀ a ∈ fp, ∃ o, H a = some o
  | [], _, _, h, a, ha => by rw [h.2] at ha; cases ha
  | none :: ρ, σ, fp, h, a, ha => by
    obtain ⟨x, σ', e, r⟩ := h
    exact relL_trk r a ha
  | some d :: ρ, σ, fp, h, a, ha => by
    obtain ⟨v, σ', f1, f2, e, h1, h2, ef⟩ := h
    subst ef
    rcases List.mem_append.mp ha with ha | ha
    · exact repD_trk d h1 a ha
    · exact relL_trk h2 a ha
/-- a slot, and how to put another thing there -/
theorem relL_at : ∀ {ρ : Env} {σ : L2.St} {fp : FP} {i : Nat} {d : D}, RelL K cA H Z ρ σ fp → ρ[i]? = some (some d) → ∃ v f0 f1 f2, σ[i]? = some (some v) ∧ RepD K cA H Z d v f1 ∧ fp = f0 ++ f1 ++ f2 ∧
    (∀ {H' : Hp} {Z' : ZS} {d' : D} {v' : V} {g : FP}, (∀ a, Z a → Z' a) → (∀ a o, (Z a ∨ a ∈ f0 ∨ a ∈ f2) → H a = some o → H' a = some o) → RepD K cA H' Z' d' v' g → RelL K cA H' Z' (ρ.set i (some d')) (σ.set i (some v')) (f0 ++ g ++ f2)) ∧
    (∀ {H' : Hp} {Z' : ZS}, (∀ a, Z a → Z' a) → (∀ a o, (Z a ∨ a ∈ f0 ∨ a ∈ f2) → H a = some o → H' a = some o) → RelL K cA H' Z' (ρ.set i none) σ (f0 ++ f2))
  | [], _, _, _, _, _, e => by simp at e
  | none :: ρ, σ, fp, 0, d, h, e => by simp at e
  | some d' :: ρ, σ, fp, 0, d, h, e => by
    simp at e; subst e
    obtain ⟨v, σ', f1, f2, es, h1, h2, ef⟩ := h
    subst es
    refine ⟨v, [], f1, f2, rfl, h1, by simpa using ef, fun {H' Z' d'' v' g} hz hk r => ⟨v', σ', g, f2, rfl, r, relL_mono hz (fun a o m => hk a o (m.imp id fun z => .inr z)) h2, by simp⟩, fun {H' Z'} hz hk => ?_⟩
    exact ⟨some v, σ', rfl, by simpa using relL_mono hz (fun a o m => hk a o (m.imp id fun z => .inr z)) h2⟩
  | none :: ρ, σ, fp, i + 1, d, h, e => by
    obtain ⟨x, σ', es, r⟩ := h
    subst es
    obtain ⟨v, f0, f1, f2, hv, hr, ef, put, cut⟩ := relL_at (i := i) r (by simpa using e)
    refine ⟨v, f0, f1, f2, by simpa using hv, hr, ef, fun {H' Z' d'' v' g} hz hk q => ⟨x, _, rfl, put hz hk q⟩, fun {H' Z'} hz hk => ⟨x, _, rfl, cut hz hk⟩⟩
  | some d0 :: ρ, σ, fp, i + 1, d, h, e => by
    obtain ⟨v0, σ', g1, g2, es, h1, h2, eg⟩ := h
    subst es
    obtain ⟨v, f0, f1, f2, hv, hr, ef, put, cut⟩ := relL_at (i := i) h2 (by simpa using e)
    refine ⟨v, g1 ++ f0, f1, f2, by simpa using hv, hr, by rw [eg, ef]; simp, fun {H' Z' d'' v' g} hz hk q => ⟨v0, _, g1, f0 ++ g ++ f2, rfl, ?_, put hz (fun a o m => hk a o (m.imp id fun z => z.imp (fun z => by simp [z]) id)) q, by simp⟩, fun {H' Z'} hz hk => ⟨v0, _, g1, f0 ++ f2, rfl, ?_, cut hz (fun a o m => hk a o (m.imp id fun z => z.imp (fun z => by simp [z]) id)), by simp⟩⟩
    · exact repD_mono d0 hz (fun a o m => hk a o (m.imp id fun z => .inl (by simp [z]))) h1
    · exact repD_mono d0 hz (fun a o m => hk a o (m.imp id fun z => .inl (by simp [z]))) h1
/-- a slot is set, whatever it held -/
theorem relL_set : ∀ {ρ : Env} {σ : L2.St} {fp : FP} {i : Nat} {d : D} {v : V} {g : FP}, RelL K cA H Z ρ σ fp → i < ρ.length → RepD K cA H Z d v g → ∃ f0 f2, (f0 ++ f2).Sublist fp ∧ RelL K cA H Z (ρ.set i (some d)) (σ.set i (some v)) (f0 ++ g ++ f2)
  | [], _, _, _, _, _, _, _, e, _ => by simp at e
  | none :: ρ, σ, fp, 0, d, v, g, h, _, hr => by
    obtain ⟨x, σ', es, r⟩ := h
    subst es
    exact ⟨[], fp, by simp, v, σ', g, fp, rfl, hr, r, by simp⟩
  | some d' :: ρ, σ, fp, 0, d, v, g, h, _, hr => by
    obtain ⟨v', σ', f1, f2, es, h1, h2, ef⟩ := h
    subst es ef
    exact ⟨[], f2, by simp, v, σ', g, f2, rfl, hr, h2, by simp⟩
  | none :: ρ, σ, fp, i + 1, d, v, g, h, hi, hr => by
    obtain ⟨x, σ', es, r⟩ := h
    subst es
    obtain ⟨f0, f2, hs, q⟩ := relL_set (i := i) r (by simpa using hi) hr
    exact ⟨f0, f2, hs, x, _, rfl, q⟩
  | some d' :: ρ, σ, fp, i + 1, d, v, g, h, hi, hr => by
    obtain ⟨v', σ', f1, f2, es, h1, h2, ef⟩ := h
    subst es ef
    obtain ⟨f0, f2', hs, q⟩ := relL_set (i := i) h2 (by simpa using hi) hr
    refine ⟨f1 ++ f0, f2', ?_, v', _, f1, f0 ++ g ++ f2', rfl, h1, q, by simp⟩
    rw [List.append_assoc]
    exact (List.Sublist.refl f1).append hs
end
end DL
namespace DL
open PySem L2

/-! ### results -/
structure Exn where
  c : Str
  fs : List (Str × At)
inductive Out (α : Type) where
  | ok (x : α) (ρ : Env) | ex (e : Exn) (ρ : Env) | st
inductive Fl where
  | nx (ρ : Env) | rt (d : D) (ρ : Env) | bk (ρ : Env) | ct (ρ : Env) | ex (e : Exn) (ρ : Env) | st
inductive FR where
  | rt (d : D) (io : Option D) | ex (e : Exn) (io : Option D) | st
def ExR (cA : Str → Addr) (H : Hp) (Z : ZS) (e : Exn) (cls : Value) (d : Option Addr) : Prop :=
  cls = .ref (cA e.c) ∧ (e.fs = [] ∨ ∃ dd, d = some dd ∧ Z dd ∧ H dd = some (.xd (e.fs.map fun p => (p.1, p.2.v))))

/-! ### what a reading says -/
section
variable (K : PySem.W.Frag) (cA : Str → Addr)
def PostE (W : WX) (σ : L2.St) (H : Hp) (Z : ZS) (L : FP) (Q : VK) : Out D → Prop
  | .ok d ρ' => ∀ v H' Z' L' fp, RelL K cA H' Z' ρ' σ L' → Wf H' Z' (fp ++ L') → RepD K cA H' Z' d v fp → Fr H Z L H' Z' (fp ++ L') → Q v H'
  | .ex e ρ' => ∀ cls d H' Z' L', RelL K cA H' Z' ρ' σ L' → Wf H' Z' L' → ExR cA H' Z' e cls d → Fr H Z L H' Z' L' → W cls d σ H'
  | .st => False
def PostP (W : WX) (σ : L2.St) (H : Hp) (Z : ZS) (L : FP) (Q : VK) : Out D → Prop
  | .ok d ρ' => ∀ v H' Z' L' fp, RelL K cA H' Z' ρ' σ L' → Wf H' Z' L' → RepD K cA H' Z' d v fp → Fr H Z L H' Z' L' → Q v H'
  | .ex e ρ' => ∀ cls d H' Z' L', RelL K cA H' Z' ρ' σ L' → Wf H' Z' L' → ExR cA H' Z' e cls d → Fr H Z L H' Z' L' → W cls d σ H'
  | .st => False
def PostT (W : WX) (σ : L2.St) (H : Hp) (Z : ZS) (L : FP) (Q : Bool → Hp → Prop) : Out Bool → Prop
  | .ok b ρ' => ∀ H' Z' L', RelL K cA H' Z' ρ' σ L' → Wf H' Z' L' → Fr H Z L H' Z' L' → Q b H'
  | .ex e ρ' => ∀ cls d H' Z' L', RelL K cA H' Z' ρ' σ L' → Wf H' Z' L' → ExR cA H' Z' e cls d → Fr H Z L H' Z' L' → W cls d σ H'
  | .st => False
/-- an argument: a value, or a slot that is lent -/
inductive Ag where
  | d (d : D) | s (i : Nat)
def RepA (H : Hp) (Z : ZS) (σ : L2.St) : List Ag → List V → FP → Prop
  | [], vs, g => vs = [] ∧ g = []
  | .d x :: xs, vs, g => ∃ v vs' f1 f2, vs = v :: vs' ∧ RepD K cA H Z x v f1 ∧ RepA H Z σ xs vs' f2 ∧ g = f1 ++ f2
  | .s i :: xs, vs, g => ∃ v vs', vs = v :: vs' ∧ σ[i]? = some (some v) ∧ RepA H Z σ xs vs' g
def PostA (W : WX) (σ : L2.St) (H : Hp) (Z : ZS) (L : FP) (Q : List V → Hp → Prop) : Out (List Ag) → Prop
  | .ok ds ρ' => ∀ vs H' Z' L' fp, RelL K cA H' Z' ρ' σ L' → Wf H' Z' (fp ++ L') → RepA K cA H' Z' σ ds vs fp → Fr H Z L H' Z' (fp ++ L') → Q vs H'
  | .ex e ρ' => ∀ cls d H' Z' L', RelL K cA H' Z' ρ' σ L' → Wf H' Z' L' → ExR cA H' Z' e cls d → Fr H Z L H' Z' L' → W cls d σ H'
  | .st => False
def Pin (k : Option Nat) (σ σ' : L2.St) : Prop := ∀ i, k = some i → σ'[i]? = σ[i]?
def PostS (W : WX) (k : Option Nat) (σ : L2.St) (H : Hp) (Z : ZS) (L : FP) (D : Ends) : Fl → Prop
  | .nx ρ' => ∀ σ' H' Z' L', RelL K cA H' Z' ρ' σ' L' → Wf H' Z' L' → Fr H Z L H' Z' L' → Pin k σ σ' → D.nx σ' H'
  | .bk ρ' => ∀ σ' H' Z' L', RelL K cA H' Z' ρ' σ' L' → Wf H' Z' L' → Fr H Z L H' Z' L' → Pin k σ σ' → D.bk σ' H'
  | .ct ρ' => ∀ σ' H' Z' L', RelL K cA H' Z' ρ' σ' L' → Wf H' Z' L' → Fr H Z L H' Z' L' → Pin k σ σ' → D.ct σ' H'
  | .rt d ρ' => ∀ v σ' H' Z' L' fp, RelL K cA H' Z' ρ' σ' L' → Wf H' Z' (fp ++ L') → RepD K cA H' Z' d v fp → Fr H Z L H' Z' (fp ++ L') → Pin k σ σ' → D.rt v H'
  | .ex e ρ' => ∀ cls d σ' H' Z' L', RelL K cA H' Z' ρ' σ' L' → Wf H' Z' L' → ExR cA H' Z' e cls d → Fr H Z L H' Z' L' → Pin k σ σ' → W cls d σ' H'
  | .st => False
def TEof (W : WX) (f : Env → Out D) : TE := fun σ H Q => ∃ Z L ρ, RelL K cA H Z ρ σ L ∧ Wf H Z L ∧ PostE K cA W σ H Z L Q (f ρ)
def TPof (W : WX) (f : Env → Out D) : TE := fun σ H Q => ∃ Z L ρ, RelL K cA H Z ρ σ L ∧ Wf H Z L ∧ PostP K cA W σ H Z L Q (f ρ)
def TTof (W : WX) (f : Env → Out Bool) : TT := fun σ H Q => ∃ Z L ρ, RelL K cA H Z ρ σ L ∧ Wf H Z L ∧ PostT K cA W σ H Z L Q (f ρ)
def TAof (W : WX) (f : Env → Out (List Ag)) : TA := fun σ H Q => ∃ Z L ρ, RelL K cA H Z ρ σ L ∧ Wf H Z L ∧ PostA K cA W σ H Z L Q (f ρ)
def TSof (W : WX) (k : Option Nat) (f : Env → Fl) : TS := fun D σ H => ∃ Z L ρ, RelL K cA H Z ρ σ L ∧ Wf H Z L ∧ PostS K cA W k σ H Z L D (f ρ)
end
section
variable (X : Cx) (cA : Str → Addr) (W : WX)
def DE (f : Env → Out D) (e : Expr) : Prop := PE X e (TEof X.K cA W f)
def DP (f : Env → Out D) (e : Expr) : Prop := PE X e (TPof X.K cA W f)
def DT (f : Env → Out Bool) (e : Expr) : Prop := PT X e (TTof X.K cA W f)
def DW (f : Env → Out Bool) (e : Expr) : Prop := PW X e (TTof X.K cA W f)
def DA (f : Env → Out (List Ag)) (es : List Expr) : Prop := PA X es (TAof X.K cA W f)
def DS (k : Option Nat) (f : Env → Fl) (st : Stmt) : Prop := PS X st (TSof X.K cA W k f)
def DSs (k : Option Nat) (f : Env → Fl) (st : List Stmt) : Prop := PSs X st (TSof X.K cA W k f)
end
section
variable {X : Cx}
theorem PE.imp {e : Expr} {t t' : TE} (h : PE X e t) (i : ∀ σ H Q, t' σ H Q → t σ H Q) : PE X e t' := ⟨fun pins s σ H Q I w => h.run pins s σ H Q I (i σ H Q w)⟩
theorem PT.imp {e : Expr} {t t' : TT} (h : PT X e t) (i : ∀ σ H Q, t' σ H Q → t σ H Q) : PT X e t' := ⟨fun pins s σ H Q I w => h.run pins s σ H Q I (i σ H Q w)⟩
theorem PW.imp {e : Expr} {t t' : TT} (h : PW X e t) (i : ∀ σ H Q, t' σ H Q → t σ H Q) : PW X e t' := ⟨fun wh pins s σ H Q I w => h.run wh pins s σ H Q I (i σ H Q w)⟩
theorem PA.imp {e : List Expr} {t t' : TA} (h : PA X e t) (i : ∀ σ H Q, t' σ H Q → t σ H Q) : PA X e t' := ⟨fun pos pins s σ H Q I w => h.run pos pins s σ H Q I (i σ H Q w)⟩
theorem PS.imp {e : Stmt} {t t' : TS} (h : PS X e t) (i : ∀ D σ H, t' D σ H → t D σ H) : PS X e t' := ⟨fun pins s σ H D I w => h.run pins s σ H D I (i D σ H w)⟩
theorem PSs.imp {e : List Stmt} {t t' : TS} (h : PSs X e t) (i : ∀ D σ H, t' D σ H → t D σ H) : PSs X e t' := ⟨fun pins s σ H D I w => h.run pins s σ H D I (i D σ H w)⟩
end

/-! ### more of states -/
section
variable {K : PySem.W.Frag} {cA : Str → Addr} {H H1 H2 : Hp} {Z Z1 Z2 : ZS} {L L1 L2 M fp : FP} {ρ : Env} {σ : _root_.L2.St}
theorem relL_wait (w : Wf H1 Z1 (fp ++ L1)) (h : RelL K cA H1 Z1 ρ σ fp) (f : Fr H1 Z1 L1 H2 Z2 M) : RelL K cA H2 Z2 ρ σ fp := by
  have nd := List.nodup_append.mp w.nd
  refine relL_mono f.zm (fun a o m e => f.keep a o e fun q => ?_) h
  rcases m with m | m
  · exact w.dj a (by simp [q]) m
  · exact nd.2.2 a m a q rfl
theorem Wf.swap (w : Wf H Z (L ++ M)) : Wf H Z (M ++ L) := w.perm (List.perm_append_comm)
theorem Fr.swap (f : Fr H Z L H1 Z1 (L1 ++ M)) : Fr H Z L H1 Z1 (M ++ L1) := f.less fun x m => by
  rcases List.mem_append.mp m with m | m <;> simp [m]
theorem Fr.swapl (f : Fr H Z (L ++ M) H1 Z1 L1) : Fr H Z (M ++ L) H1 Z1 L1 := f.more fun x m => by
  rcases List.mem_append.mp m with m | m <;> simp [m]
/-- an operation on what is in hand (fp), the slots (L1) wait -/
theorem hand (w : Wf H1 Z1 (fp ++ L1)) (r : RelL K cA H1 Z1 ρ σ L1) (f : Fr H1 Z1 fp H2 Z2 M) (w2 : Wf H2 Z2 M) : RelL K cA H2 Z2 ρ σ L1 ∧ Wf H2 Z2 (M ++ L1) ∧ Fr H1 Z1 (fp ++ L1) H2 Z2 (M ++ L1) := by
  have ws := w.swap
  refine ⟨relL_wait ws r f, (ws.wait (relL_trk r) f w2).swap, ?_⟩
  exact ((Fr.refl (H := H1) (Z := Z1) (L := L1 ++ fp)).wait ws f).swap.swapl
/-- the same, the hand empty -/
theorem hand0 (w : Wf H1 Z1 L1) (r : RelL K cA H1 Z1 ρ σ L1) (f : Fr H1 Z1 [] H2 Z2 M) (w2 : Wf H2 Z2 M) : RelL K cA H2 Z2 ρ σ L1 ∧ Wf H2 Z2 (M ++ L1) ∧ Fr H1 Z1 L1 H2 Z2 (M ++ L1) := hand (fp := []) w r f w2
/-- what is in hand is frozen -/
def ZU (Z : ZS) (fp : FP) : ZS := fun a => Z a ∨ a ∈ fp
theorem Wf.freeze (w : Wf H Z (fp ++ L)) (ht : ∀ a ∈ fp, ∃ o, H a = some o) : Wf H (ZU Z fp) L := by
  have nd := List.nodup_append.mp w.nd
  refine ⟨nd.2.1, fun a ha z => ?_, fun a z => ?_⟩
  · rcases z with z | z
    · exact w.dj a (by simp [ha]) z
    · exact nd.2.2 a z a ha rfl
  · rcases z with z | z
    · exact w.tz a z
    · exact ht a z
theorem Fr.freeze (f : Fr H Z L H1 Z1 (fp ++ M)) : Fr H Z L H1 (ZU Z1 fp) M := by
  refine ⟨f.keep, fun a z => .inl (f.zm a z), fun a z => ?_, fun a m => f.ls a (by simp [m])⟩
  rcases z with z | z
  · exact f.zs a z
  · exact .inr (f.ls a (by simp [z]))
theorem zu_sub {fp : FP} : ∀ a, Z a → ZU Z fp a := fun _ z => .inl z
theorem relL_zu (h : RelL K cA H Z ρ σ L) : RelL K cA H (ZU Z fp) ρ σ L := relL_mono zu_sub (fun _ _ _ e => e) h
theorem repD_zu {d : D} {v : V} (h : RepD K cA H Z d v fp) : RepD K cA H (ZU Z fp) (frz d) v [] := repD_frz d zu_sub (fun a m => .inr m) h
theorem repL_zu {d : List D} {v : List V} (h : RepL K cA H Z d v fp) : RepL K cA H (ZU Z fp) (frzL d) v [] := repL_frz d zu_sub (fun a m => .inr m) h
/-- a new object, owned | frozen -/
theorem fr_new {p : Addr} {o : HO} (h : H p = none) : Fr H Z L (upd H p o) Z (p :: L) := by
  refine ⟨fun a u e _ => by rw [upd_ne (ne_of_none e h)]; exact e, fun _ z => z, fun _ z => .inl z, fun a m => ?_⟩
  rcases List.mem_cons.mp m with rfl | m
  · exact .inr h
  · exact .inl m
theorem wf_new {p : Addr} {o : HO} (w : Wf H Z L) (h : H p = none) (ht : ∀ a ∈ L, ∃ o, H a = some o) : Wf (upd H p o) Z (p :: L) := by
  refine ⟨List.nodup_cons.mpr ⟨fun m => ?_, w.nd⟩, fun a m => ?_, fun a z => ?_⟩
  · obtain ⟨u, e⟩ := ht p m; rw [h] at e; cases e
  · rcases List.mem_cons.mp m with rfl | m
    · intro z; obtain ⟨u, e⟩ := w.tz a z; rw [h] at e; cases e
    · exact w.dj a m
  · obtain ⟨u, e⟩ := w.tz a z
    exact ⟨u, by rw [upd_ne (ne_of_none e h)]; exact e⟩
theorem keep_new {p : Addr} {o : HO} (h : H p = none) : ∀ a u, H a = some u → upd H p o a = some u := fun a u e => by rw [upd_ne (ne_of_none e h)]; exact e
end

/-! ### from HandS's readings -/
section
variable {X : Cx} {cA : Str → Addr} {W : WX} {k : Option Nat}
theorem de_of {e : Expr} {t : TE} {f : Env → Out D} (h : PE X e t) (i : ∀ σ H Q Z L ρ, RelL X.K cA H Z ρ σ L → Wf H Z L → PostE X.K cA W σ H Z L Q (f ρ) → t σ H Q) : DE X cA W f e :=
  PE.imp h fun σ H Q ⟨Z, L, ρ, r, w, p⟩ => i σ H Q Z L ρ r w p
theorem dp_of {e : Expr} {t : TE} {f : Env → Out D} (h : PE X e t) (i : ∀ σ H Q Z L ρ, RelL X.K cA H Z ρ σ L → Wf H Z L → PostP X.K cA W σ H Z L Q (f ρ) → t σ H Q) : DP X cA W f e :=
  PE.imp h fun σ H Q ⟨Z, L, ρ, r, w, p⟩ => i σ H Q Z L ρ r w p
theorem dt_of {e : Expr} {t : TT} {f : Env → Out Bool} (h : PT X e t) (i : ∀ σ H Q Z L ρ, RelL X.K cA H Z ρ σ L → Wf H Z L → PostT X.K cA W σ H Z L Q (f ρ) → t σ H Q) : DT X cA W f e :=
  PT.imp h fun σ H Q ⟨Z, L, ρ, r, w, p⟩ => i σ H Q Z L ρ r w p
theorem dw_of {e : Expr} {t : TT} {f : Env → Out Bool} (h : PW X e t) (i : ∀ σ H Q Z L ρ, RelL X.K cA H Z ρ σ L → Wf H Z L → PostT X.K cA W σ H Z L Q (f ρ) → t σ H Q) : DW X cA W f e :=
  PW.imp h fun σ H Q ⟨Z, L, ρ, r, w, p⟩ => i σ H Q Z L ρ r w p
theorem da_of {e : List Expr} {t : TA} {f : Env → Out (List Ag)} (h : PA X e t) (i : ∀ σ H Q Z L ρ, RelL X.K cA H Z ρ σ L → Wf H Z L → PostA X.K cA W σ H Z L Q (f ρ) → t σ H Q) : DA X cA W f e :=
  PA.imp h fun σ H Q ⟨Z, L, ρ, r, w, p⟩ => i σ H Q Z L ρ r w p
theorem ds_of {e : Stmt} {t : TS} {f : Env → Fl} (h : PS X e t) (i : ∀ D σ H Z L ρ, RelL X.K cA H Z ρ σ L → Wf H Z L → PostS X.K cA W k σ H Z L D (f ρ) → t D σ H) : DS X cA W k f e :=
  PS.imp h fun D σ H ⟨Z, L, ρ, r, w, p⟩ => i D σ H Z L ρ r w p
theorem dss_of {e : List Stmt} {t : TS} {f : Env → Fl} (h : PSs X e t) (i : ∀ D σ H Z L ρ, RelL X.K cA H Z ρ σ L → Wf H Z L → PostS X.K cA W k σ H Z L D (f ρ) → t D σ H) : DSs X cA W k f e :=
  PSs.imp h fun D σ H ⟨Z, L, ρ, r, w, p⟩ => i D σ H Z L ρ r w p
end
/-- the way out by an exception, from a later state -/
theorem exw {K : PySem.W.Frag} {cA : Str → Addr} {W : WX} {σ : L2.St} {H H1 : Hp} {Z Z1 : ZS} {L L1 : FP} {e : Exn} {ρ' : Env}
    (h : ∀ cls d H' Z' L', RelL K cA H' Z' ρ' σ L' → Wf H' Z' L' → ExR cA H' Z' e cls d → Fr H Z L H' Z' L' → W cls d σ H') (f : Fr H Z L H1 Z1 L1) :
    ∀ cls d H' Z' L', RelL K cA H' Z' ρ' σ L' → Wf H' Z' L' → ExR cA H' Z' e cls d → Fr H1 Z1 L1 H' Z' L' → W cls d σ H' := fun cls d H' Z' L' r w x g => h cls d H' Z' L' r w x (f.trans g)

/-! ### expressions -/
section
variable {X : Cx} {cA : Str → Addr} {W : WX}
/-- a value is at hand at once -/
theorem postE_at {K : PySem.W.Frag} {σ : L2.St} {H : Hp} {Z : ZS} {L : FP} {ρ : Env} {Q : VK} {d : D} {v : V} (r : RelL K cA H Z ρ σ L) (w : Wf H Z L) (h : RepD K cA H Z d v []) (p : PostE K cA W σ H Z L Q (.ok d ρ)) : Q v H :=
  p v H Z L [] r w h Fr.refl
theorem repD_a {K : PySem.W.Frag} {H : Hp} {Z : ZS} {x : At} : RepD K cA H Z (.a x) x.v [] := ⟨rfl, rfl⟩
def dC (x : At) : Env → Out D := fun ρ => .ok (.a x) ρ
theorem de_int {i : Int} {j pos} : DE X cA W (dC (.int i)) (.Constant (.int i) j pos) := de_of pe_int fun σ H Q Z L ρ r w p => postE_at r w repD_a p
theorem de_bl {b : Bool} {j pos} : DE X cA W (dC (.bl b)) (.Constant (.bool b) j pos) := de_of pe_bl fun σ H Q Z L ρ r w p => postE_at r w repD_a p
theorem de_non {j pos} : DE X cA W (dC .non) (.Constant .none j pos) := de_of pe_non fun σ H Q Z L ρ r w p => postE_at r w repD_a p
theorem de_str {x : Str} {j pos} : DE X cA W (dC (.str x)) (.Constant (.str x) j pos) := de_of pe_str fun σ H Q Z L ρ r w p => postE_at r w repD_a p
/-- a constant of the module -/
theorem de_glob {x : Str} {a : At} {u : Value} {pos : Pos} (hg : Gl X x) (hm : X.mg x = some u) (r : RelV a.v u) (hd : (x == ("__debug__" : Str)) = false := by kernel_rfl) : DE X cA W (dC a) (.Name x pos) :=
  de_of (pe_glob hg hm r hd) fun σ H Q Z L ρ r w p => postE_at r w repD_a p

def dVar (i : Nat) : Env → Out D := fun ρ => match ρ[i]? with
  | some (some d) => if isF d = true then .ok d ρ else .st
  | _ => .st
def dPeek (i : Nat) : Env → Out D := fun ρ => match ρ[i]? with
  | some (some d) => .ok d ρ
  | _ => .st
theorem de_var {i : Nat} {e : Expr} (h : PE X e (tVar i)) : DE X cA W (dVar i) e := de_of h fun σ H Q Z L ρ r w p => by
  unfold dVar at p
  split at p
  · rename_i d hd
    split at p
    · rename_i hf
      obtain ⟨v, f0, f1, f2, hv, hr, ef, _, _⟩ := relL_at r hd
      have e1 := repD_isF d hr hf
      subst e1
      exact ⟨v, hv, postE_at r w hr p⟩
    · exact p.elim
  · exact p.elim
theorem dp_peek {i : Nat} {e : Expr} (h : PE X e (tVar i)) : DP X cA W (dPeek i) e := dp_of h fun σ H Q Z L ρ r w p => by
  unfold dPeek at p
  split at p
  · rename_i d hd
    obtain ⟨v, f0, f1, f2, hv, hr, ef, _, _⟩ := relL_at r hd
    exact ⟨v, hv, p v H Z L f1 r w hr Fr.refl⟩
  · exact p.elim
/-- every value may be looked at -/
theorem dp_de {f : Env → Out D} {e : Expr} (h : DE X cA W f e) : DP X cA W f e := dp_of h fun σ H Q Z L ρ r w p => ⟨Z, L, ρ, r, w, by
  cases hf : f ρ with
  | ok d ρ' =>
    rw [hf] at p
    exact fun v H' Z' L' fp r' w' h' f' => p v H' Z' L' fp r' (w'.less (List.sublist_append_right _ _)) h' (f'.less fun x m => by simp [m])
  | ex e ρ' => rw [hf] at p; exact p
  | st => rw [hf] at p; exact p⟩
/-- the value is frozen -/
def dFz (f : Env → Out D) : Env → Out D := fun ρ => match f ρ with
  | .ok d ρ' => .ok (frz d) ρ'
  | .ex e ρ' => .ex e ρ'
  | .st => .st
theorem de_fz {f : Env → Out D} {e : Expr} (h : DE X cA W f e) : DE X cA W (dFz f) e := de_of h fun σ H Q Z L ρ r w p => ⟨Z, L, ρ, r, w, by
  unfold dFz at p
  cases hf : f ρ with
  | ok d ρ' =>
    rw [hf] at p
    exact fun v H' Z' L' fp r' w' h' f' => p v H' (ZU Z' fp) L' [] (relL_zu r') (w'.freeze (repD_trk d h')) (repD_zu h') f'.freeze
  | ex e ρ' => rw [hf] at p; exact p
  | st => rw [hf] at p; exact p⟩

/-- an operation of two values -/
structure VOp2 (K : PySem.W.Frag) (cA : Str → Addr) (r : R2) (g : D → D → Option D) : Prop where
  run : ∀ {d1 d2 d : D} {v1 v2 : V} {H : Hp} {Z : ZS} {f1 f2 : FP} {Q : VK}, RepD K cA H Z d1 v1 f1 → RepD K cA H Z d2 v2 f2 → Wf H Z (f1 ++ f2) → g d1 d2 = some d →
  (∀ v H' Z' fp, RepD K cA H' Z' d v fp → Wf H' Z' fp → Fr H Z (f1 ++ f2) H' Z' fp → Q v H') → r v1 v2 H Q
def dOp2 (g : D → D → Option D) (fa fb : Env → Out D) : Env → Out D := fun ρ => match fa ρ with
  | .ok d1 ρ1 => (match fb ρ1 with
    | .ok d2 ρ2 => (match g d1 d2 with
      | some d => .ok d ρ2
      | none => .st)
    | .ex e ρ2 => .ex e ρ2
    | .st => .st)
  | .ex e ρ1 => .ex e ρ1
  | .st => .st
theorem te_op2 {K : PySem.W.Frag} {r : R2} {g : D → D → Option D} (V : VOp2 K cA r g) {fa fb : Env → Out D} : ∀ σ H Q, TEof K cA W (dOp2 g fa fb) σ H Q → tOp r (TEof K cA W fa) (TEof K cA W fb) σ H Q := by
  rintro σ H Q ⟨Z, L, ρ, r, w, p⟩
  refine ⟨Z, L, ρ, r, w, ?_⟩
  unfold dOp2 at p
  cases ha : fa ρ with
  | st => rw [ha] at p; exact p
  | ex e ρ' => rw [ha] at p; exact p
  | ok d1 ρ1 =>
    rw [ha] at p
    intro v1 H1 Z1 L1 f1 r1 w1 h1 F1
    refine ⟨Z1, L1, ρ1, r1, w1.less (List.sublist_append_right _ _), ?_⟩
    dsimp only at p
    cases hb : fb ρ1 with
    | st => rw [hb] at p; exact p
    | ex e ρ' =>
      rw [hb] at p
      exact exw p (F1.less fun x m => by simp [m])
    | ok d2 ρ2 =>
      rw [hb] at p
      intro v2 H2 Z2 L2 f2 r2 w2 h2 F2
      dsimp only at p
      cases hg : g d1 d2 with
      | none => rw [hg] at p; exact p.elim
      | some d =>
        rw [hg] at p
        have w12 : Wf H2 Z2 (f1 ++ (f2 ++ L2)) := w1.wait (repD_trk d1 h1) F2 w2
        have F12 := Fr.wait w1 F1 F2
        rw [← List.append_assoc] at w12 F12
        refine V.run (repD_wait w1 h1 F2) h2 (w12.less (List.sublist_append_left _ _)) hg fun v H3 Z3 fp h3 w3 F3 => ?_
        obtain ⟨r3, w4, F4⟩ := hand w12 r2 F3 w3
        exact p v H3 Z3 L2 fp r3 w4 h3 (F12.trans F4)
theorem de_op {op : Operator} {r : R2} {g : D → D → Option D} {fa fb : Env → Out D} {a b : Expr} {pos : Pos} (ho : OpR X (binaryOp op) r) (V : VOp2 X.K cA r g) (ha : DE X cA W fa a) (hb : DE X cA W fb b) : DE X cA W (dOp2 g fa fb) (.BinOp a op b pos) :=
  PE.imp (pe_op ho ha hb) (te_op2 V)
theorem de_cmp {op : CmpOp} {r : R2} {g : D → D → Option D} {fa fb : Env → Out D} {a b : Expr} {pos : Pos} (ho : OpR X (compareOp op) r) (V : VOp2 X.K cA r g) (ha : DE X cA W fa a) (hb : DE X cA W fb b) (hm : behindInMarks op b = false := by exact nomark _) : DE X cA W (dOp2 g fa fb) (.Compare a [op] [b] pos) :=
  PE.imp (pe_cmpR ho ha hb hm) (te_op2 V)
/-- the second value is looked at only (x in xs) -/
structure VOpP (K : PySem.W.Frag) (cA : Str → Addr) (r : R2) (g : D → D → Option D) : Prop where
  run : ∀ {d1 d2 d : D} {v1 v2 : V} {H : Hp} {Z : ZS} {f1 f2 : FP} {Q : VK}, RepD K cA H Z d1 v1 f1 → RepD K cA H Z d2 v2 f2 → g d1 d2 = some d →
  (∀ x, d = .a x → Q x.v H) → r v1 v2 H Q
theorem te_opP {K : PySem.W.Frag} {r : R2} {g : D → D → Option D} (V : VOpP K cA r g) (hg : ∀ d1 d2 d, g d1 d2 = some d → ∃ x, d = .a x) {fa fb : Env → Out D} : ∀ σ H Q, TEof K cA W (dOp2 g fa fb) σ H Q → tOp r (TEof K cA W fa) (TPof K cA W fb) σ H Q := by
  rintro σ H Q ⟨Z, L, ρ, r, w, p⟩
  refine ⟨Z, L, ρ, r, w, ?_⟩
  unfold dOp2 at p
  cases ha : fa ρ with
  | st => rw [ha] at p; exact p
  | ex e ρ' => rw [ha] at p; exact p
  | ok d1 ρ1 =>
    rw [ha] at p
    intro v1 H1 Z1 L1 f1 r1 w1 h1 F1
    refine ⟨Z1, L1, ρ1, r1, w1.less (List.sublist_append_right _ _), ?_⟩
    dsimp only at p
    cases hb : fb ρ1 with
    | st => rw [hb] at p; exact p
    | ex e ρ' =>
      rw [hb] at p
      exact exw p (F1.less fun x m => by simp [m])
    | ok d2 ρ2 =>
      rw [hb] at p
      intro v2 H2 Z2 L2 f2 r2 w2 h2 F2
      dsimp only at p
      cases hg' : g d1 d2 with
      | none => rw [hg'] at p; exact p.elim
      | some d =>
        rw [hg'] at p
        obtain ⟨x, rfl⟩ := hg d1 d2 d hg'
        refine V.run (repD_wait w1 h1 F2) h2 hg' fun x' e => ?_
        cases e
        exact p x.v H2 Z2 L2 [] r2 w2 repD_a ((F1.less fun x m => by simp [m]).trans F2)
end
end DL
namespace DL
open PySem L2

abbrev cap : Nat := 1000000
theorem cap_le {n : Nat} (h : n ≤ cap) : n ≤ sizeLine := Nat.le_trans h (by rw [sizeLine_eq]; decide)
theorem cap_lt {n : Nat} (h : n < cap) : n < sizeLine := Nat.lt_of_lt_of_le h (by rw [sizeLine_eq]; decide)

/-! ### arithmetic -/
/-- the answer to an operation of two ints that gives an atom -/
theorem vop_at {K : PySem.W.Frag} {cA : Str → Addr} {r : R2} {g : D → D → Option D} (h : ∀ d1 d2 d, g d1 d2 = some d → ∃ x y z, d1 = .a x ∧ d2 = .a y ∧ d = .a z ∧ ∀ H (Q : VK), Q z.v H → r x.v y.v H Q) : VOp2 K cA r g := by
  refine ⟨@fun d1 d2 d v1 v2 H Z f1 f2 Q h1 h2 w hg q => ?_⟩
  obtain ⟨x, y, z, rfl, rfl, rfl, hr⟩ := h d1 d2 d hg
  obtain ⟨e1, e2⟩ := h1
  obtain ⟨e3, e4⟩ := h2
  subst e1 e2 e3 e4
  exact hr H Q (q _ H Z [] ⟨rfl, rfl⟩ ⟨List.nodup_nil, fun _ m => (nomatch m), w.tz⟩ Fr.refl)
def gOr (g g' : D → D → Option D) : D → D → Option D := fun a b => (g a b).or (g' a b)
theorem vop_or {K : PySem.W.Frag} {cA : Str → Addr} {r r' : R2} {g g' : D → D → Option D} (h : VOp2 K cA r g) (h' : VOp2 K cA r' g') : VOp2 K cA (fun x y H Q => r x y H Q ∨ r' x y H Q) (gOr g g') := by
  refine ⟨@fun d1 d2 d v1 v2 H Z f1 f2 Q h1 h2 w hg q => ?_⟩
  unfold gOr at hg
  cases e : g d1 d2 with
  | some c =>
    rw [e] at hg
    cases hg
    exact .inl (h.run h1 h2 w e q)
  | none =>
    rw [e] at hg
    exact .inr (h'.run h1 h2 w hg q)
def gII (c : Int → Int → Bool) (f : Int → Int → Int) : D → D → Option D
  | .a (.int i), .a (.int j) => if c i j = true then some (.int (f i j)) else none
  | _, _ => none
theorem vop_ii {K : PySem.W.Frag} {cA : Str → Addr} {C : Int → Int → Prop} {c : Int → Int → Bool} {f : Int → Int → Int} (h : ∀ i j, c i j = true → C i j) : VOp2 K cA (rI C fun i j => .int (f i j)) (gII c f) := vop_at fun d1 d2 d hg => by
  unfold gII at hg
  split at hg
  · rename_i i j
    split at hg
    · rename_i hc
      cases hg
      exact ⟨_, _, _, rfl, rfl, rfl, fun H Q q => ⟨i, j, rfl, rfl, h i j hc, q⟩⟩
    · cases hg
  · cases hg
theorem vop_ii0 {K : PySem.W.Frag} {cA : Str → Addr} {f : Int → Int → Int} : VOp2 K cA (rI0 fun i j => .int (f i j)) (gII (fun _ _ => true) f) := vop_at fun d1 d2 d hg => by
  unfold gII at hg
  split at hg
  · rename_i i j
    rw [if_pos rfl] at hg
    cases hg
    exact ⟨_, _, _, rfl, rfl, rfl, fun H Q q => ⟨i, j, rfl, rfl, q⟩⟩
  · cases hg
def gIB (f : Int → Int → Bool) : D → D → Option D
  | .a (.int i), .a (.int j) => some (.bl (f i j))
  | _, _ => none
theorem vop_ib {K : PySem.W.Frag} {cA : Str → Addr} {f : Int → Int → Bool} : VOp2 K cA (rI0 fun i j => .bl (f i j)) (gIB f) := vop_at fun d1 d2 d hg => by
  unfold gIB at hg
  split at hg
  · rename_i i j
    cases hg
    exact ⟨_, _, _, rfl, rfl, rfl, fun H Q q => ⟨i, j, rfl, rfl, q⟩⟩
  · cases hg

/-- two lists, the items frozen -/
def gCatL : D → D → Option D
  | .n .lst _ xs, .n .lst _ ys => if isFL xs = true ∧ isFL ys = true ∧ xs.length + ys.length ≤ cap then some (.lst true (xs ++ ys)) else none
  | _, _ => none
section
variable {K : PySem.W.Frag} {cA : Str → Addr} {H : Hp} {Z : ZS}
/-- a list, opened -/
theorem rep_lst {o : Bool} {xs : List D} {v : V} {fp : FP} (h : RepD K cA H Z (.n .lst o xs) v fp) : ∃ p vs g, v = .ref p ∧ H p = some (.lst vs) ∧ RepL K cA H Z xs vs g ∧ fp = (if o then p :: g else []) ∧ (o = false → Z p ∧ g = []) := by
  obtain ⟨p, vs, g, e, hl, hc, ef, hg⟩ := h
  exact ⟨p, vs, g, e, hc.1, hl, ef, fun q => ⟨hc.2 q, hg q⟩⟩
theorem rep_tup {o : Bool} {xs : List D} {v : V} {fp : FP} (h : RepD K cA H Z (.n .tup o xs) v fp) : ∃ p vs, v = .ref p ∧ SqT K H p vs ∧ RepL K cA H Z xs vs [] ∧ fp = [] ∧ o = false ∧ ((Z p ∧ Rd H p (.tup vs)) ∨ KT K p vs) := by
  obtain ⟨p, vs, g, e, hl, ⟨ho, hc⟩, ef, hg⟩ := h
  subst ho
  have := hg rfl
  subst this
  refine ⟨p, vs, e, ?_, hl, ef, rfl, hc⟩
  rcases hc with ⟨_, r⟩ | r
  · exact .inl r
  · exact .inr r
theorem rep_scr {o : Bool} {xs : List D} {v : V} {fp : FP} (h : RepD K cA H Z (.n .scr o xs) v fp) : ∃ p vs, v = .ref p ∧ SqL K H p vs ∧ RepL K cA H Z xs vs [] ∧ fp = [] ∧ o = false := by
  obtain ⟨p, vs, g, e, hl, ⟨ho, hc⟩, ef, hg⟩ := h
  subst ho
  have := hg rfl
  subst this
  refine ⟨p, vs, e, ?_, hl, ef, rfl⟩
  rcases hc with ⟨_, r⟩ | r
  · exact .inl r
  · exact .inr r
theorem repL_fl {xs : List D} {vs : List V} {g : FP} (h : RepL K cA H Z xs vs g) (hf : isFL xs = true) : RepL K cA H Z xs vs [] := by
  have e := repL_isF xs h hf
  subst e
  exact h
/-- a new list, owned, its items frozen -/
theorem new_lst {xs : List D} {vs : List V} {p : Addr} (w : Wf H Z []) (h : RepL K cA H Z xs vs []) (hp : H p = none) :
    RepD K cA (upd H p (.lst vs)) Z (.lst true xs) (.ref p) [p] ∧ Wf (upd H p (.lst vs)) Z [p] ∧ Fr H Z [] (upd H p (.lst vs)) Z [p] := by
  refine ⟨⟨p, vs, [], rfl, repL_mono xs (fun _ z => z) (fun a o _ e => keep_new hp a o e) h, ⟨upd_same, fun q => nomatch q⟩, rfl, fun q => nomatch q⟩, wf_new w hp (fun a m => nomatch m), fr_new hp⟩
/-- a new tuple, frozen -/
theorem new_tup {xs : List D} {vs : List V} {p : Addr} (w : Wf H Z []) (h : RepL K cA H Z xs vs []) (hp : H p = none) :
    RepD K cA (upd H p (.tup vs)) (ZU Z [p]) (.tup xs) (.ref p) [] ∧ Wf (upd H p (.tup vs)) (ZU Z [p]) [] ∧ Fr H Z [] (upd H p (.tup vs)) (ZU Z [p]) [] := by
  refine ⟨⟨p, vs, [], rfl, repL_mono xs zu_sub (fun a o _ e => keep_new hp a o e) h, ⟨rfl, .inl ⟨.inr (by simp), .inl upd_same⟩⟩, rfl, fun _ => rfl⟩, ?_, ?_⟩
  · exact (wf_new w hp (fun a m => nomatch m) : Wf (upd H p (.tup vs)) Z ([p] ++ [])).freeze fun a m => ⟨.tup vs, by
      have : a = p := by simpa using m
      subst this; exact upd_same⟩
  · exact Fr.freeze (fp := [p]) (M := []) (fr_new hp)
theorem wf0 {L : FP} (w : Wf H Z L) : Wf H Z [] := w.less (List.nil_sublist _)
theorem fr0 {L : FP} {H' : Hp} {Z' : ZS} {fp : FP} (f : Fr H Z [] H' Z' fp) : Fr H Z L H' Z' fp := f.more fun _ m => nomatch m
end
theorem vop_catL {K : PySem.W.Frag} {cA : Str → Addr} : VOp2 K cA rCat gCatL := by
  refine ⟨@fun d1 d2 d v1 v2 H Z f1 f2 Q h1 h2 w hg q => ?_⟩
  unfold gCatL at hg
  split at hg
  · rename_i o1 xs o2 ys
    split at hg
    · rename_i hc
      cases hg
      obtain ⟨p, vs, g, rfl, e1, r1, _, _⟩ := rep_lst h1
      obtain ⟨p', ws, g', rfl, e2, r2, _, _⟩ := rep_lst h2
      have l1 := repL_len r1
      have l2 := repL_len r2
      refine ⟨p, p', vs, ws, rfl, rfl, e1, e2, cap_le (by omega), fun p0 hp => ?_⟩
      obtain ⟨a, b, c⟩ := new_lst (wf0 w) (repL_append (repL_fl r1 hc.1) (repL_fl r2 hc.2.1)) hp
      exact q _ _ _ _ a b (fr0 c)
    · cases hg
  · cases hg
def gCatT : D → D → Option D
  | .n .tup _ xs, .n .tup _ ys => if xs.length + ys.length ≤ cap then some (.tup (xs ++ ys)) else none
  | _, _ => none
theorem vop_catT {K : PySem.W.Frag} {cA : Str → Addr} : VOp2 K cA (rCatA K) gCatT := by
  refine ⟨@fun d1 d2 d v1 v2 H Z f1 f2 Q h1 h2 w hg q => ?_⟩
  unfold gCatT at hg
  split at hg
  · rename_i o1 xs o2 ys
    split at hg
    · rename_i hc
      cases hg
      obtain ⟨p, vs, rfl, e1, r1, ef1, _, c1⟩ := rep_tup h1
      obtain ⟨p', ws, rfl, e2, r2, ef2, _, c2⟩ := rep_tup h2
      have l1 := repL_len r1
      have l2 := repL_len r2
      have rr := repL_append r1 r2
      refine ⟨p, p', vs, ws, rfl, rfl, e1, e2, cap_le (by omega), fun e => ?_, fun n1 e => ?_, fun n1 n2 p0 hp => ?_⟩
      · subst e
        exact q _ H Z [] ⟨p', ws, [], rfl, rr, ⟨rfl, c2⟩, rfl, fun _ => rfl⟩ (wf0 w) (Fr.refl.less fun _ m => nomatch m)
      · subst e
        exact q _ H Z [] ⟨p, vs, [], rfl, by simpa using rr, ⟨rfl, c1⟩, rfl, fun _ => rfl⟩ (wf0 w) (Fr.refl.less fun _ m => nomatch m)
      · obtain ⟨a, b, c⟩ := new_tup (wf0 w) rr hp
        exact q _ _ _ _ a b (fr0 c)
    · cases hg
  · cases hg
def gCatS : D → D → Option D
  | .a (.str x), .a (.str y) => if x.length + y.length ≤ cap then some (.str (x ++ y)) else none
  | _, _ => none
theorem vop_catS {K : PySem.W.Frag} {cA : Str → Addr} : VOp2 K cA (fun x y H Q => ∃ i j, x = .str i ∧ y = .str j ∧ i.length + j.length ≤ sizeLine ∧ Q (.str (i ++ j)) H) gCatS := vop_at fun d1 d2 d hg => by
  unfold gCatS at hg
  split at hg
  · rename_i x y
    split at hg
    · rename_i hc
      cases hg
      exact ⟨_, _, _, rfl, rfl, rfl, fun H Q q => ⟨x, y, rfl, rfl, cap_le hc, q⟩⟩
    · cases hg
  · cases hg
abbrev gAddI : D → D → Option D := gII (fun _ _ => true) fun i j => i + j
abbrev gSub : D → D → Option D := gII (fun _ _ => true) fun i j => i - j
def gAdd : D → D → Option D := gOr gAddI (gOr gCatL (gOr gCatT gCatS))
/-- [..] * k -/
def gRep : D → D → Option D
  | .n .lst _ xs, .a (.int k) => if isFL xs = true ∧ -1000000 ≤ k ∧ k ≤ 1000000 ∧ xs.length * k.toNat ≤ cap then some (.lst true (List.replicate k.toNat xs).flatten) else none
  | _, _ => none
theorem repL_rep {K : PySem.W.Frag} {cA : Str → Addr} {H : Hp} {Z : ZS} {xs : List D} {vs : List V} (h : RepL K cA H Z xs vs []) : ∀ n : Nat, RepL K cA H Z (List.replicate n xs).flatten (List.replicate n vs).flatten []
  | 0 => ⟨rfl, rfl⟩
  | n + 1 => by
    rw [List.replicate_succ, List.replicate_succ, List.flatten_cons, List.flatten_cons]
    exact repL_append h (repL_rep h n)
theorem vop_rep {K : PySem.W.Frag} {cA : Str → Addr} : VOp2 K cA rRep gRep := by
  refine ⟨@fun d1 d2 d v1 v2 H Z f1 f2 Q h1 h2 w hg q => ?_⟩
  unfold gRep at hg
  split at hg
  · rename_i o1 xs k
    split at hg
    · rename_i hc
      cases hg
      obtain ⟨p, vs, g, rfl, e1, r1, _, _⟩ := rep_lst h1
      obtain ⟨e3, e4⟩ := h2
      subst e3
      have l1 := repL_len r1
      refine ⟨p, k, vs, rfl, rfl, e1, by omega, by omega, cap_le (by rw [l1]; exact hc.2.2.2), fun p0 hp => ?_⟩
      obtain ⟨a, b, c⟩ := new_lst (wf0 w) (repL_rep (repL_fl r1 hc.1) k.toNat) hp
      exact q _ _ _ _ a b (fr0 c)
    · cases hg
  · cases hg
def mulOk (i j : Int) : Bool := decide ((Builtin.Int.intBits i : Int) + (Builtin.Int.intBits j : Int) ≤ 134217728)
abbrev gMulI : D → D → Option D := gII mulOk fun i j => i * j
def gMul : D → D → Option D := gOr gMulI gRep
def divOk (i j : Int) : Bool := decide (0 < j) && (decide (j < 1073741824) || decide (j.natAbs.log2 < 9000))
abbrev gFdiv : D → D → Option D := gII divOk fun i j => i / j
abbrev gMod : D → D → Option D := gII (fun _ j => decide (0 < j)) fun i j => i % j
def powOk (i j : Int) : Bool := decide (0 ≤ j) && (decide (j ≤ 1000000) && decide (i.natAbs < 2 ^ 64))
abbrev gPow : D → D → Option D := gII powOk fun i j => i ^ j.toNat
abbrev gShl : D → D → Option D := gII powOk fun i j => i * 2 ^ j.toNat
abbrev gShr : D → D → Option D := gII (fun _ j => decide (0 ≤ j)) fun i j => i / 2 ^ j.toNat
abbrev gAnd : D → D → Option D := gII (fun _ _ => true) fun i j => Builtin.bitAnd i j
abbrev gOrB : D → D → Option D := gII (fun _ _ => true) fun i j => Builtin.bitOr i j
abbrev gXor : D → D → Option D := gII (fun _ _ => true) fun i j => Builtin.bitXor i j
section
variable {X : Cx} {cA : Str → Addr} {W : WX} {fa fb : Env → Out D} {a b : Expr} {pos : Pos}
theorem divOk_w {i j : Int} (h : divOk i j = true) : CDivW i j := by
  unfold divOk at h
  simp only [Bool.and_eq_true, Bool.or_eq_true, decide_eq_true_eq] at h
  refine ⟨h.1, ?_⟩
  rcases h.2 with h2 | h2
  · have h3 : j.natAbs < 2 ^ 30 := by have := h.1; omega
    exact Nat.lt_of_lt_of_le (PySem.Flt.log2_lt_of (by decide) h3) (by decide)
  · exact h2
theorem mulOk_c {i j : Int} (h : mulOk i j = true) : CMulX i j := by
  unfold mulOk at h
  unfold CMulX
  exact of_decide_eq_true h
theorem powOk_c {i j : Int} (h : powOk i j = true) : CPow i j := by
  unfold powOk at h
  simp only [Bool.and_eq_true, decide_eq_true_eq] at h
  exact ⟨h.1, h.2.1, h.2.2⟩
theorem de_add (ha : DE X cA W fa a) (hb : DE X cA W fb b) : DE X cA W (dOp2 gAdd fa fb) (.BinOp a .Add b pos) :=
  de_op (op_add.or (op_cat.or (op_catA.or op_add_str))) (vop_or vop_ii0 (vop_or vop_catL (vop_or vop_catT vop_catS))) ha hb
theorem de_sub (ha : DE X cA W fa a) (hb : DE X cA W fb b) : DE X cA W (dOp2 gSub fa fb) (.BinOp a .Sub b pos) := de_op op_sub vop_ii0 ha hb
theorem de_mul (ha : DE X cA W fa a) (hb : DE X cA W fb b) : DE X cA W (dOp2 gMul fa fb) (.BinOp a .Mult b pos) :=
  de_op (op_mulX.or op_rep) (vop_or (vop_ii fun i j h => mulOk_c h) vop_rep) ha hb
theorem de_fdiv (ha : DE X cA W fa a) (hb : DE X cA W fb b) : DE X cA W (dOp2 gFdiv fa fb) (.BinOp a .FloorDiv b pos) := de_op op_fdivW (vop_ii fun i j h => divOk_w h) ha hb
theorem de_mod (ha : DE X cA W fa a) (hb : DE X cA W fb b) : DE X cA W (dOp2 gMod fa fb) (.BinOp a .Mod b pos) := de_op op_mod (vop_ii fun i j h => of_decide_eq_true h) ha hb
theorem de_pow (ha : DE X cA W fa a) (hb : DE X cA W fb b) : DE X cA W (dOp2 gPow fa fb) (.BinOp a .Pow b pos) := de_op op_pow (vop_ii fun i j h => powOk_c h) ha hb
theorem de_shl (ha : DE X cA W fa a) (hb : DE X cA W fb b) : DE X cA W (dOp2 gShl fa fb) (.BinOp a .LShift b pos) := de_op op_shl (vop_ii fun i j h => powOk_c h) ha hb
theorem de_shr (ha : DE X cA W fa a) (hb : DE X cA W fb b) : DE X cA W (dOp2 gShr fa fb) (.BinOp a .RShift b pos) := de_op op_shr (vop_ii fun i j h => of_decide_eq_true h) ha hb
theorem de_and (ha : DE X cA W fa a) (hb : DE X cA W fb b) : DE X cA W (dOp2 gAnd fa fb) (.BinOp a .BitAnd b pos) := de_op op_and vop_ii0 ha hb
theorem de_or (ha : DE X cA W fa a) (hb : DE X cA W fb b) : DE X cA W (dOp2 gOrB fa fb) (.BinOp a .BitOr b pos) := de_op op_or vop_ii0 ha hb
theorem de_xor (ha : DE X cA W fa a) (hb : DE X cA W fb b) : DE X cA W (dOp2 gXor fa fb) (.BinOp a .BitXor b pos) := de_op op_xor vop_ii0 ha hb
end

/-! ### one value -/
/-- a value is looked at, something comes -/
structure VU (K : PySem.W.Frag) (cA : Str → Addr) (r : V → Hp → VK → Prop) (g : D → Option D) : Prop where
  run : ∀ {d1 d : D} {v1 : V} {H : Hp} {Z : ZS} {f1 : FP} {Q : VK}, RepD K cA H Z d1 v1 f1 → Wf H Z [] → g d1 = some d →
  (∀ v H' Z' fp, RepD K cA H' Z' d v fp → Wf H' Z' fp → Fr H Z [] H' Z' fp → Q v H') → r v1 H Q
def dU (g : D → Option D) (fa : Env → Out D) : Env → Out D := fun ρ => match fa ρ with
  | .ok d1 ρ1 => (match g d1 with
    | some d => .ok d ρ1
    | none => .st)
  | .ex e ρ1 => .ex e ρ1
  | .st => .st
section
variable {X : Cx} {cA : Str → Addr} {W : WX} {fa fb : Env → Out D} {a b : Expr} {pos : Pos}
theorem te_un {K : PySem.W.Frag} {r : V → Hp → VK → Prop} {g : D → Option D} (V : VU K cA r g) : ∀ σ H Q, TEof K cA W (dU g fa) σ H Q → tUn r (TPof K cA W fa) σ H Q := by
  rintro σ H Q ⟨Z, L, ρ, r, w, p⟩
  refine ⟨Z, L, ρ, r, w, ?_⟩
  unfold dU at p
  cases ha : fa ρ with
  | st => rw [ha] at p; exact p
  | ex e ρ' => rw [ha] at p; exact p
  | ok d1 ρ1 =>
    rw [ha] at p
    intro v1 H1 Z1 L1 f1 r1 w1 h1 F1
    dsimp only at p
    cases hg : g d1 with
    | none => rw [hg] at p; exact p.elim
    | some d =>
      rw [hg] at p
      refine V.run h1 (wf0 w1) hg fun v H2 Z2 fp h2 w2 F2 => ?_
      obtain ⟨r3, w3, F3⟩ := hand0 w1 r1 F2 w2
      exact p v H2 Z2 L1 fp r3 w3 h2 (F1.trans F3)
theorem vu_at {K : PySem.W.Frag} {r : V → Hp → VK → Prop} {g : D → Option D} (h : ∀ d1 d, g d1 = some d → ∃ x z, d1 = .a x ∧ d = .a z ∧ ∀ H (Q : VK), Q z.v H → r x.v H Q) : VU K cA r g := by
  refine ⟨@fun d1 d v1 H Z f1 Q h1 w hg q => ?_⟩
  obtain ⟨x, z, rfl, rfl, hr⟩ := h d1 d hg
  obtain ⟨e1, e2⟩ := h1
  subst e1 e2
  exact hr H Q (q _ H Z [] ⟨rfl, rfl⟩ w Fr.refl)
theorem de_un {op : UnaryOp} {r : V → Hp → VK → Prop} {g : D → Option D} (ho : UnR X (unaryOp op) r) (V : VU X.K cA r g) (ha : DP X cA W fa a) : DE X cA W (dU g fa) (.UnaryOp op a pos) := PE.imp (pe_un ho ha) (te_un V)
def gI (f : Int → Int) : D → Option D
  | .a (.int i) => some (.int (f i))
  | _ => none
theorem vu_i {K : PySem.W.Frag} {f : Int → Int} : VU K cA (rU fun i => .int (f i)) (gI f) := vu_at fun d1 d hg => by
  unfold gI at hg
  split at hg
  · rename_i i
    cases hg
    exact ⟨_, _, rfl, rfl, fun H Q q => ⟨i, rfl, q⟩⟩
  · cases hg
abbrev gNeg : D → Option D := gI fun i => -i
abbrev gInv : D → Option D := gI Builtin.bitNot
theorem de_neg (ha : DE X cA W fa a) : DE X cA W (dU gNeg fa) (.UnaryOp .USub a pos) := de_un un_neg vu_i (dp_de ha)
theorem de_inv (ha : DE X cA W fa a) : DE X cA W (dU gInv fa) (.UnaryOp .Invert a pos) := de_un un_inv vu_i (dp_de ha)
/-- f(e), f a built-in -/
def VC1 (K : PySem.W.Frag) (cA : Str → Addr) (r : List V → Hp → VK → Prop) (g : D → Option D) : Prop := VU K cA (fun v H Q => r [v] H Q) g
theorem te_c1 {K : PySem.W.Frag} {r : List V → Hp → VK → Prop} {g : D → Option D} (V : VC1 K cA r g) : ∀ σ H Q, TEof K cA W (dU g fa) σ H Q → tCB r (tCons (TPof K cA W fa) tNil) σ H Q := te_un (r := fun v H Q => r [v] H Q) V
theorem de_callB {id : String} {x : Str} {p : Pos} {r : List V → Hp → VK → Prop} {g : D → Option D} (hc : CallR X (.builtin id) r) (V : VC1 X.K cA r g) (hg : Gl X x) (hm : X.mg x = none) (hv : bootBuiltins x = some (.builtin id)) (ha : DP X cA W fa a)
    (hn : x ≠ "__name__" := by decide +kernel) (hdb : (x == ("__debug__" : Str)) = false := by kernel_rfl)
    (he : starEach [a] X.env = [(false, eval a X.env)] := by kernel_rfl) (hs : starEach [a] X.env = (false, eval a X.env) :: starEach [] X.env := by kernel_rfl) : DE X cA W (dU g fa) (.Call (.Name x p) [a] [] pos) :=
  PE.imp (pe_callB hc hg hm hv (pa_cons ha pa_nil hs) hn hdb hs rfl) (te_c1 V)
theorem de_callTy {T : String} {x : Str} {p : Pos} {r : List V → Hp → VK → Prop} {g : D → Option D} (hc : CallR X (.type T) r) (V : VC1 X.K cA r g) (hg : Gl X x) (hm : X.mg x = none) (hv : bootBuiltins x = some (.type T)) (ha : DP X cA W fa a)
    (hn : x ≠ "__name__" := by decide +kernel) (hdb : (x == ("__debug__" : Str)) = false := by kernel_rfl)
    (hs : starEach [a] X.env = (false, eval a X.env) :: starEach [] X.env := by kernel_rfl) : DE X cA W (dU g fa) (.Call (.Name x p) [a] [] pos) :=
  PE.imp (pe_callTy hc hg hm hv (pa_cons ha pa_nil hs) hn hdb hs rfl) (te_c1 V)
/-- len -/
def gLen : D → Option D
  | .n .scr _ xs => some (.int xs.length)
  | .n .lst _ xs => some (.int xs.length)
  | .n .tup _ xs => some (.int xs.length)
  | .a (.str s) => if s.length ≤ cap then some (.int s.length) else none
  | _ => none
theorem vc_len {K : PySem.W.Frag} : VC1 K cA (fun xs H Q => ∃ x n, xs = [x] ∧ LenV K x H n ∧ Q (.int n) H) gLen := by
  refine ⟨@fun d1 d v1 H Z f1 Q h1 w hg q => ?_⟩
  unfold gLen at hg
  split at hg
  · rename_i o xs
    cases hg
    obtain ⟨p, vs, rfl, e1, r1, _⟩ := rep_scr h1
    exact ⟨_, xs.length, rfl, .inl ⟨vs, e1, (repL_len r1).symm⟩, q _ H Z [] ⟨rfl, rfl⟩ w Fr.refl⟩
  · rename_i o xs
    cases hg
    obtain ⟨p, vs, g, rfl, e1, r1, _, _⟩ := rep_lst h1
    exact ⟨_, xs.length, rfl, .inl ⟨vs, SqL.of e1, (repL_len r1).symm⟩, q _ H Z [] ⟨rfl, rfl⟩ w Fr.refl⟩
  · rename_i o xs
    cases hg
    obtain ⟨p, vs, rfl, e1, r1, _⟩ := rep_tup h1
    exact ⟨_, xs.length, rfl, .inr ⟨vs, e1, (repL_len r1).symm⟩, q _ H Z [] ⟨rfl, rfl⟩ w Fr.refl⟩
  · rename_i s
    split at hg
    · rename_i hs
      cases hg
      obtain ⟨e, _⟩ := h1
      subst e
      exact ⟨_, s.length, rfl, ⟨cap_le hs, rfl⟩, q _ H Z [] ⟨rfl, rfl⟩ w Fr.refl⟩
    · cases hg
  · cases hg
theorem de_len {x : Str} {p : Pos} (hg : Gl X x) (hm : X.mg x = none) (hv : bootBuiltins x = some (.builtin "len")) (ha : DP X cA W fa a) (hn : x ≠ "__name__" := by decide +kernel) (hdb : (x == ("__debug__" : Str)) = false := by kernel_rfl)
    (hs : starEach [a] X.env = (false, eval a X.env) :: starEach [] X.env := by kernel_rfl) : DE X cA W (dU gLen fa) (.Call (.Name x p) [a] [] pos) := de_callB call_len vc_len hg hm hv ha hn hdb hs hs
/-- tuple(..), list(..) -/
def gTuple : D → Option D
  | .n .lst _ xs => if isFL xs = true then some (.tup xs) else none
  | .n .tup _ xs => some (.tup xs)
  | _ => none
def gList : D → Option D
  | .n .lst _ xs => if isFL xs = true then some (.lst true xs) else none
  | .n .tup _ xs => some (.lst true xs)
  | _ => none
theorem vc_tuple {K : PySem.W.Frag} : VC1 K cA (fun xs H Q => ∃ p ys, xs = [.ref p] ∧ ((SqL K H p ys ∧ ∀ l, H l = none → Q (.ref l) (upd H l (.tup ys))) ∨ (SqT K H p ys ∧ Q (.ref p) H))) gTuple := by
  refine ⟨@fun d1 d v1 H Z f1 Q h1 w hg q => ?_⟩
  unfold gTuple at hg
  split at hg
  · rename_i o xs
    split at hg
    · rename_i hf
      cases hg
      obtain ⟨p, vs, g, rfl, e1, r1, _, _⟩ := rep_lst h1
      refine ⟨p, vs, rfl, .inl ⟨SqL.of e1, fun l hl => ?_⟩⟩
      obtain ⟨a, b, c⟩ := new_tup w (repL_fl r1 hf) hl
      exact q _ _ _ _ a b c
    · cases hg
  · rename_i o xs
    cases hg
    obtain ⟨p, vs, rfl, e1, r1, _, ho, c1⟩ := rep_tup h1
    exact ⟨p, vs, rfl, .inr ⟨e1, q _ H Z [] ⟨p, vs, [], rfl, r1, ⟨rfl, c1⟩, rfl, fun _ => rfl⟩ w Fr.refl⟩⟩
  · cases hg
theorem vc_list {K : PySem.W.Frag} : VC1 K cA (fun xs H Q => ∃ p ys, xs = [.ref p] ∧ (SqL K H p ys ∨ SqT K H p ys) ∧ ∀ l, H l = none → Q (.ref l) (upd H l (.lst ys))) gList := by
  refine ⟨@fun d1 d v1 H Z f1 Q h1 w hg q => ?_⟩
  unfold gList at hg
  split at hg
  · rename_i o xs
    split at hg
    · rename_i hf
      cases hg
      obtain ⟨p, vs, g, rfl, e1, r1, _, _⟩ := rep_lst h1
      refine ⟨p, vs, rfl, .inl (SqL.of e1), fun l hl => ?_⟩
      obtain ⟨a, b, c⟩ := new_lst w (repL_fl r1 hf) hl
      exact q _ _ _ _ a b c
    · cases hg
  · rename_i o xs
    cases hg
    obtain ⟨p, vs, rfl, e1, r1, _⟩ := rep_tup h1
    refine ⟨p, vs, rfl, .inr e1, fun l hl => ?_⟩
    obtain ⟨a, b, c⟩ := new_lst w r1 hl
    exact q _ _ _ _ a b c
  · cases hg
theorem de_tuple {x : Str} {p : Pos} (hg : Gl X x) (hm : X.mg x = none) (hv : bootBuiltins x = some (.type "tuple")) (ha : DP X cA W fa a) (hn : x ≠ "__name__" := by decide +kernel) (hdb : (x == ("__debug__" : Str)) = false := by kernel_rfl)
    (hs : starEach [a] X.env = (false, eval a X.env) :: starEach [] X.env := by kernel_rfl) : DE X cA W (dU gTuple fa) (.Call (.Name x p) [a] [] pos) := de_callTy call_tuple_of vc_tuple hg hm hv ha hn hdb hs
theorem de_list {x : Str} {p : Pos} (hg : Gl X x) (hm : X.mg x = none) (hv : bootBuiltins x = some (.type "list")) (ha : DP X cA W fa a) (hn : x ≠ "__name__" := by decide +kernel) (hdb : (x == ("__debug__" : Str)) = false := by kernel_rfl)
    (hs : starEach [a] X.env = (false, eval a X.env) :: starEach [] X.env := by kernel_rfl) : DE X cA W (dU gList fa) (.Call (.Name x p) [a] [] pos) := de_callTy call_list_of vc_list hg hm hv ha hn hdb hs
/-- int(..), abs(..) -/
def gInt : D → Option D
  | .a (.int i) => some (.int i)
  | .a (.bl k) => some (.int (if k = true then 1 else 0))
  | _ => none
theorem vc_int {K : PySem.W.Frag} : VC1 K cA (fun xs H Q => (∃ i, xs = [.int i] ∧ Q (.int i) H) ∨ ∃ k, xs = [.bl k] ∧ Q (.int (if k then 1 else 0)) H) gInt := vu_at fun d1 d hg => by
  unfold gInt at hg
  split at hg
  · rename_i i
    cases hg
    exact ⟨_, _, rfl, rfl, fun H Q q => .inl ⟨i, rfl, q⟩⟩
  · rename_i k
    cases hg
    exact ⟨_, _, rfl, rfl, fun H Q q => .inr ⟨k, rfl, q⟩⟩
  · cases hg
theorem de_intc {x : Str} {p : Pos} (hg : Gl X x) (hm : X.mg x = none) (hv : bootBuiltins x = some (.type "int")) (ha : DP X cA W fa a) (hn : x ≠ "__name__" := by decide +kernel) (hdb : (x == ("__debug__" : Str)) = false := by kernel_rfl)
    (hs : starEach [a] X.env = (false, eval a X.env) :: starEach [] X.env := by kernel_rfl) : DE X cA W (dU gInt fa) (.Call (.Name x p) [a] [] pos) := de_callTy call_int1 vc_int hg hm hv ha hn hdb hs
abbrev gAbs : D → Option D := gI fun i => if i < 0 then -i else i
theorem vc_abs {K : PySem.W.Frag} : VC1 K cA (fun xs H Q => ∃ i, xs = [.int i] ∧ Q (.int (if i < 0 then -i else i)) H) gAbs := vu_at fun d1 d hg => by
  unfold gAbs gI at hg
  split at hg
  · rename_i i
    cases hg
    exact ⟨_, _, rfl, rfl, fun H Q q => ⟨i, rfl, q⟩⟩
  · cases hg
theorem de_abs {x : Str} {p : Pos} (hg : Gl X x) (hm : X.mg x = none) (hv : bootBuiltins x = some (.builtin "abs")) (ha : DP X cA W fa a) (hn : x ≠ "__name__" := by decide +kernel) (hdb : (x == ("__debug__" : Str)) = false := by kernel_rfl)
    (hs : starEach [a] X.env = (false, eval a X.env) :: starEach [] X.env := by kernel_rfl) : DE X cA W (dU gAbs fa) (.Call (.Name x p) [a] [] pos) := de_callB call_abs vc_abs hg hm hv ha hn hdb hs hs
end
end DL
namespace DL
open PySem L2

/-! ### plain data, equality -/
def strG (s : Str) : Bool := s.cps.all (· < 0x110000)
mutual
def pD (n : Nat) : D → Bool
  | .a (.str s) => strG s
  | .a _ => true
  | .n .tup _ xs => (match n with | 0 => false | m + 1 => pDL m xs)
  | .n .lst _ xs => (match n with | 0 => false | m + 1 => pDL m xs)
  | _ => false
def pDL (n : Nat) : List D → Bool
  | [] => true
  | x :: xs => pD n x && pDL n xs
end
def eqA : At → At → Bool
  | .non, .non => true
  | .bl a, .bl b => a == b
  | .bl a, .int b => (if a = true then 1 else 0) == b
  | .int a, .bl b => a == (if b = true then 1 else 0)
  | .int a, .int b => a == b
  | .str a, .str b => a == b
  | _, _ => false
mutual
def eqD : D → D → Bool
  | .a x, .a y => eqA x y
  | .n .tup _ xs, .n .tup _ ys => eqDL xs ys
  | .n .lst _ xs, .n .lst _ ys => eqDL xs ys
  | _, _ => false
def eqDL : List D → List D → Bool
  | [], [] => true
  | x :: xs, y :: ys => eqD x y && eqDL xs ys
  | _, _ => false
end
mutual
def pyD : D → PyData
  | .a .non => .none
  | .a (.bl b) => .bool b
  | .a (.int i) => .int i
  | .a (.str s) => .str s
  | .n .tup _ xs => .tuple (pyL xs)
  | .n .lst _ xs => .list (pyL xs)
  | _ => .none
def pyL : List D → List PyData
  | [] => []
  | x :: xs => pyD x :: pyL xs
end
theorem pyL_map : ∀ xs : List D, pyL xs = xs.map pyD
  | [] => rfl
  | x :: xs => by rw [List.map_cons, ← pyL_map xs]; rfl
mutual
theorem lay_pD : ∀ (n : Nat) (d : D), pD n d = true → PyData.canLay0 (pyD d) = true ∧ PyData.depth (pyD d) ≤ n
  | n, .a .non, _ => ⟨by simp [pyD, PyData.canLay0], by simp [pyD, PyData.depth]⟩
  | n, .a (.bl b), _ => ⟨by simp [pyD, PyData.canLay0], by simp [pyD, PyData.depth]⟩
  | n, .a (.int i), _ => ⟨by simp [pyD, PyData.canLay0], by simp [pyD, PyData.depth]⟩
  | n, .a (.str s), h => ⟨by
      have h : strG s = true := by simpa [pD] using h
      simp only [pyD, PyData.canLay0]
      exact h, by simp [pyD, PyData.depth]⟩
  | 0, .n .tup _ xs, h => by simp [pD] at h
  | n + 1, .n .tup _ xs, h => by
    have h : pDL n xs = true := by simpa [pD] using h
    obtain ⟨a, b⟩ := lay_pDL n xs h
    exact ⟨by simpa [pyD, PyData.canLay0] using a, by simpa [pyD, PyData.depth] using b⟩
  | 0, .n .lst _ xs, h => by simp [pD] at h
  | n + 1, .n .lst _ xs, h => by
    have h : pDL n xs = true := by simpa [pD] using h
    obtain ⟨a, b⟩ := lay_pDL n xs h
    exact ⟨by simpa [pyD, PyData.canLay0] using a, by simpa [pyD, PyData.depth] using b⟩
  | _, .n .scr _ _, h => by simp [pD] at h
  | _, .n (.dct _) _ _, h => by simp [pD] at h
  | _, .n (.ins _ _) _ _, h => by simp [pD] at h
theorem lay_pDL : ∀ (n : Nat) (ds : List D), pDL n ds = true → PyData.canLayAll0 (pyL ds) = true ∧ PyData.depthAll (pyL ds) ≤ n
  | n, [], _ => ⟨by simp [pyL, PyData.canLayAll0], by simp [pyL, PyData.depthAll]⟩
  | n, x :: xs, h => by
    have h : (pD n x && pDL n xs) = true := by simpa only [pDL] using h
    rw [Bool.and_eq_true] at h
    obtain ⟨a, b⟩ := lay_pD n x h.1
    obtain ⟨c, d⟩ := lay_pDL n xs h.2
    refine ⟨?_, ?_⟩
    · simp only [pyL, PyData.canLayAll0, a, c, Bool.and_self]
    · simp only [pyL, PyData.depthAll]; omega
end
mutual
theorem eqv_D : ∀ (d e : D) (n m : Nat), pD n d = true → pD m e = true → PyData.eqv (pyD d) (pyD e) = eqD d e
  | .a x, .a y, _, _, _, _ => by cases x <;> cases y <;> simp [pyD, PyData.eqv, eqD, eqA]
  | .a x, .n .tup _ ys, _, _, _, _ => by cases x <;> simp [pyD, PyData.eqv, eqD]
  | .a x, .n .lst _ ys, _, _, _, _ => by cases x <;> simp [pyD, PyData.eqv, eqD]
  | .n .tup _ xs, .a y, _, _, _, _ => by cases y <;> simp [pyD, PyData.eqv, eqD]
  | .n .lst _ xs, .a y, _, _, _, _ => by cases y <;> simp [pyD, PyData.eqv, eqD]
  | .n .tup _ xs, .n .lst _ ys, _, _, _, _ => by simp [pyD, PyData.eqv, eqD]
  | .n .lst _ xs, .n .tup _ ys, _, _, _, _ => by simp [pyD, PyData.eqv, eqD]
  | .n .tup _ xs, .n .tup _ ys, n, m, h, k => by
    cases n with
    | zero => simp [pD] at h
    | succ n =>
      cases m with
      | zero => simp [pD] at k
      | succ m =>
        simp only [pyD, PyData.eqv, eqD]
        exact eqv_DL xs ys n m (by simpa [pD] using h) (by simpa [pD] using k)
  | .n .lst _ xs, .n .lst _ ys, n, m, h, k => by
    cases n with
    | zero => simp [pD] at h
    | succ n =>
      cases m with
      | zero => simp [pD] at k
      | succ m =>
        simp only [pyD, PyData.eqv, eqD]
        exact eqv_DL xs ys n m (by simpa [pD] using h) (by simpa [pD] using k)
  | .n .scr _ _, _, _, _, h, _ => by simp [pD] at h
  | .n (.dct _) _ _, _, _, _, h, _ => by simp [pD] at h
  | .n (.ins _ _) _ _, _, _, _, h, _ => by simp [pD] at h
  | _, .n .scr _ _, _, _, _, h => by simp [pD] at h
  | _, .n (.dct _) _ _, _, _, _, h => by simp [pD] at h
  | _, .n (.ins _ _) _ _, _, _, _, h => by simp [pD] at h
theorem eqv_DL : ∀ (d e : List D) (n m : Nat), pDL n d = true → pDL m e = true → PyData.eqvAll (pyL d) (pyL e) = eqDL d e
  | [], [], _, _, _, _ => by simp [pyL, PyData.eqvAll, eqDL]
  | [], y :: ys, _, _, _, _ => by simp [pyL, PyData.eqvAll, eqDL]
  | x :: xs, [], _, _, _, _ => by simp [pyL, PyData.eqvAll, eqDL]
  | x :: xs, y :: ys, n, m, h, k => by
    have h : (pD n x && pDL n xs) = true := by simpa only [pDL] using h
    have k : (pD m y && pDL m ys) = true := by simpa only [pDL] using k
    rw [Bool.and_eq_true] at h k
    simp only [pyL, PyData.eqvAll, eqDL]
    rw [eqv_D x y n m h.1 k.1, eqv_DL xs ys n m h.2 k.2]
end
section
variable {K : PySem.W.Frag} {cA : Str → Addr} {H : Hp} {Z : ZS}
mutual
theorem rep_dp : ∀ (d : D) (n : Nat) {v : V} {fp : FP}, pD n d = true → RepD K cA H Z d v fp → Dp K H v (pyD d)
  | .a x, _, v, fp, _, h => by
    obtain ⟨e, _⟩ := h
    subst e
    cases x with
    | non => simpa [pyD, At.v] using Dp.non
    | bl b => simpa [pyD, At.v] using Dp.bl b
    | int i => simpa [pyD, At.v] using Dp.int i
    | str s => simpa [pyD, At.v] using Dp.str s
  | .n .tup o xs, n, v, fp, hp, h => by
    obtain ⟨p, vs, rfl, e1, r1, _⟩ := rep_tup h
    cases n with
    | zero => simp [pD] at hp
    | succ n =>
      simp only [pyD]
      exact Dp.tup e1 (rep_dpL xs n (by simpa [pD] using hp) r1)
  | .n .lst o xs, n, v, fp, hp, h => by
    obtain ⟨p, vs, g, rfl, e1, r1, _⟩ := rep_lst h
    cases n with
    | zero => simp [pD] at hp
    | succ n =>
      simp only [pyD]
      exact Dp.lst (SqL.of e1) (rep_dpL xs n (by simpa [pD] using hp) r1)
  | .n .scr _ _, _, _, _, h, _ => by simp [pD] at h
  | .n (.dct _) _ _, _, _, _, h, _ => by simp [pD] at h
  | .n (.ins _ _) _ _, _, _, _, h, _ => by simp [pD] at h
theorem rep_dpL : ∀ (ds : List D) (n : Nat) {vs : List V} {g : FP}, pDL n ds = true → RepL K cA H Z ds vs g → DpAll K H vs (pyL ds)
  | [], _, _, _, _, h => by
    rw [h.1]
    simpa [pyL] using DpAll.nil
  | x :: xs, n, vs, g, hp, h => by
    have hp : (pD n x && pDL n xs) = true := by simpa only [pDL] using hp
    rw [Bool.and_eq_true] at hp
    obtain ⟨v, vs', f1, f2, ev, h1, h2, _⟩ := h
    subst ev
    simp only [pyL]
    exact DpAll.cons (rep_dp x n hp.1 h1) (rep_dpL xs n hp.2 h2)
end
theorem shaped_pD {d : D} {n : Nat} (h : pD n d = true) (hn : n ≤ 64) : SeqAt.shaped (pyD d) = true := by
  obtain ⟨a, b⟩ := lay_pD n d h
  unfold SeqAt.shaped
  rw [a, Bool.true_and, decide_eq_true_eq]
  exact Nat.le_trans b hn
end
/-- two atoms of any kinds, plain data -/
def gEqA : D → D → Option D
  | .a x, .a y => if scal x.v y.v = true then some (.bl (decide (x = y))) else none
  | _, _ => none
def gNeA : D → D → Option D
  | .a x, .a y => if scal x.v y.v = true then some (.bl (!decide (x = y))) else none
  | _, _ => none
theorem At.v_inj : ∀ x y : At, x.v = y.v ↔ x = y := by
  intro x y
  cases x <;> cases y <;> simp [At.v]
def gEqP (d e : D) : Option D := if pD 60 d = true ∧ pD 60 e = true then some (.bl (eqD d e)) else none
def gNeP (d e : D) : Option D := if pD 60 d = true ∧ pD 60 e = true then some (.bl (!eqD d e)) else none
section
variable {K : PySem.W.Frag} {cA : Str → Addr}
theorem vop_eqA : VOp2 K cA rEq gEqA := vop_at fun d1 d2 d hg => by
  unfold gEqA at hg
  split at hg
  · rename_i x y
    split at hg
    · rename_i hs
      cases hg
      refine ⟨_, _, _, rfl, rfl, rfl, fun H Q q => ⟨hs, ?_⟩⟩
      have : decide (x.v = y.v) = decide (x = y) := decide_eq_decide.mpr (At.v_inj x y)
      rw [this]; exact q
    · cases hg
  · cases hg
theorem vop_neA : VOp2 K cA rNe gNeA := vop_at fun d1 d2 d hg => by
  unfold gNeA at hg
  split at hg
  · rename_i x y
    split at hg
    · rename_i hs
      cases hg
      refine ⟨_, _, _, rfl, rfl, rfl, fun H Q q => ⟨hs, ?_⟩⟩
      have : decide (x.v = y.v) = decide (x = y) := decide_eq_decide.mpr (At.v_inj x y)
      rw [this]; exact q
    · cases hg
  · cases hg
/-- an atom comes of two values, nothing changes -/
theorem vop_fin {H : Hp} {Z : ZS} {f1 f2 : FP} {Q : VK} {x : At} (w : Wf H Z (f1 ++ f2)) (q : ∀ v H' Z' fp, RepD K cA H' Z' (.a x) v fp → Wf H' Z' fp → Fr H Z (f1 ++ f2) H' Z' fp → Q v H') : Q x.v H :=
  q _ H Z [] ⟨rfl, rfl⟩ (wf0 w) (Fr.refl.less fun _ m => nomatch m)
theorem vop_eqP : VOp2 K cA (rEqD K) gEqP := by
  refine ⟨@fun d1 d2 d v1 v2 H Z f1 f2 Q h1 h2 w hg q => ?_⟩
  unfold gEqP at hg
  split at hg
  · rename_i hp
    cases hg
    refine ⟨pyD d1, pyD d2, rep_dp d1 60 hp.1 h1, rep_dp d2 60 hp.2 h2, shaped_pD hp.1 (by decide), shaped_pD hp.2 (by decide), ?_⟩
    rw [eqv_D d1 d2 60 60 hp.1 hp.2]
    exact vop_fin (x := .bl _) w q
  · cases hg
theorem vop_neP : VOp2 K cA (rNeD K) gNeP := by
  refine ⟨@fun d1 d2 d v1 v2 H Z f1 f2 Q h1 h2 w hg q => ?_⟩
  unfold gNeP at hg
  split at hg
  · rename_i hp
    cases hg
    refine ⟨pyD d1, pyD d2, rep_dp d1 60 hp.1 h1, rep_dp d2 60 hp.2 h2, shaped_pD hp.1 (by decide), shaped_pD hp.2 (by decide), ?_⟩
    rw [eqv_D d1 d2 60 60 hp.1 hp.2]
    exact vop_fin (x := .bl _) w q
  · cases hg
/-- is None, is True -/
def gIs : D → D → Option D
  | .a (.bl x), .a (.bl y) => some (.bl (decide (x = y)))
  | .a x, .a .non => some (.bl (decide (x = .non)))
  | .n _ _ _, .a .non => some (.bl false)
  | _, _ => none
def gIsNot : D → D → Option D
  | .a (.bl x), .a (.bl y) => some (.bl (!decide (x = y)))
  | .a x, .a .non => some (.bl (!decide (x = .non)))
  | .n _ _ _, .a .non => some (.bl true)
  | _, _ => none
theorem rep_n_ref {H : Hp} {Z : ZS} {k : Kd} {o : Bool} {xs : List D} {v : V} {fp : FP} (h : RepD K cA H Z (.n k o xs) v fp) : ∃ p, v = .ref p := let ⟨p, _, _, e, _⟩ := h; ⟨p, e⟩
theorem vop_is : VOp2 K cA (fun x y H Q => rIsB x y H Q ∨ (y = .non ∧ Q (.bl (decide (x = .non))) H)) gIs := by
  refine ⟨@fun d1 d2 d v1 v2 H Z f1 f2 Q h1 h2 w hg q => ?_⟩
  unfold gIs at hg
  split at hg
  · rename_i x y
    cases hg
    obtain ⟨e1, _⟩ := h1
    obtain ⟨e2, _⟩ := h2
    subst e1 e2
    exact .inl ⟨x, y, rfl, rfl, vop_fin (x := .bl _) w q⟩
  · rename_i x
    cases hg
    obtain ⟨e1, _⟩ := h1
    obtain ⟨e2, _⟩ := h2
    subst e1 e2
    refine .inr ⟨rfl, ?_⟩
    have : decide (x.v = V.non) = decide (x = At.non) := decide_eq_decide.mpr (At.v_inj x .non)
    rw [this]
    exact vop_fin (x := .bl _) w q
  · cases hg
    obtain ⟨p, e1⟩ := rep_n_ref h1
    obtain ⟨e2, _⟩ := h2
    subst e1 e2
    exact .inr ⟨rfl, vop_fin (x := .bl false) w q⟩
  · cases hg
theorem vop_isnot : VOp2 K cA (fun x y H Q => rNotB x y H Q ∨ (y = .non ∧ Q (.bl (!decide (x = .non))) H)) gIsNot := by
  refine ⟨@fun d1 d2 d v1 v2 H Z f1 f2 Q h1 h2 w hg q => ?_⟩
  unfold gIsNot at hg
  split at hg
  · rename_i x y
    cases hg
    obtain ⟨e1, _⟩ := h1
    obtain ⟨e2, _⟩ := h2
    subst e1 e2
    exact .inl ⟨x, y, rfl, rfl, vop_fin (x := .bl _) w q⟩
  · rename_i x
    cases hg
    obtain ⟨e1, _⟩ := h1
    obtain ⟨e2, _⟩ := h2
    subst e1 e2
    refine .inr ⟨rfl, ?_⟩
    have : decide (x.v = V.non) = decide (x = At.non) := decide_eq_decide.mpr (At.v_inj x .non)
    rw [this]
    exact vop_fin (x := .bl _) w q
  · cases hg
    obtain ⟨p, e1⟩ := rep_n_ref h1
    obtain ⟨e2, _⟩ := h2
    subst e1 e2
    exact .inr ⟨rfl, vop_fin (x := .bl true) w q⟩
  · cases hg
/-- x in xs -/
def isA : D → Bool
  | .a _ => true
  | _ => false
def anyEq (x : D) : List D → Bool
  | [] => false
  | y :: ys => eqD y x || anyEq x ys
def gInB (x : D) : D → Option Bool
  | .n .lst _ ys => if pD 60 x = true ∧ pDL 60 ys = true then some (anyEq x ys) else none
  | .n .tup _ ys => if isA x = true ∧ ys.all isA = true then some (anyEq x ys) else none
  | .a (.str t) => (match x with
    | .a (.str s) => some (!(Builtin.Str.occurrences t s 0 t.length 1).isEmpty)
    | _ => none)
  | _ => none
def gIn (x y : D) : Option D := (gInB x y).map D.bl
def gNotIn (x y : D) : Option D := (gInB x y).map fun b => D.bl (!b)
theorem any_eqv {n m : Nat} {x : D} (hx : pD n x = true) : ∀ {ys : List D}, pDL m ys = true → ((pyL ys).any fun z => PyData.eqv z (pyD x)) = anyEq x ys
  | [], _ => rfl
  | y :: ys, h => by
    have h : (pD m y && pDL m ys) = true := by simpa only [pDL] using h
    rw [Bool.and_eq_true] at h
    simp only [pyL, List.any_cons, anyEq]
    rw [eqv_D y x m n h.1 hx, any_eqv hx h.2]
theorem flat_at (x : At) : flatV x.v = true := by cases x <;> rfl
theorem eqV_at (x y : At) : eqV x.v y.v = eqA x y := by cases x <;> cases y <;> simp [At.v, eqV, eqA]
theorem repL_atoms {H : Hp} {Z : ZS} : ∀ {ys : List D} {vs : List V} {g : FP}, RepL K cA H Z ys vs g → ys.all isA = true → vs.all flatV = true ∧ ∀ x : At, inV x.v vs = anyEq (.a x) ys
  | [], vs, g, h, _ => by
    rw [h.1]
    exact ⟨rfl, fun x => rfl⟩
  | y :: ys, vs, g, h, ha => by
    obtain ⟨v, vs', f1, f2, ev, h1, h2, _⟩ := h
    rw [List.all_cons, Bool.and_eq_true] at ha
    cases y with
    | n k o xs => simp [isA] at ha
    | a z =>
      obtain ⟨e1, _⟩ := h1
      subst ev e1
      obtain ⟨a, b⟩ := repL_atoms h2 ha.2
      refine ⟨by rw [List.all_cons, flat_at, a]; rfl, fun x => ?_⟩
      have b' := b x
      unfold inV at b' ⊢
      rw [List.any_cons, b', eqV_at]
      rfl
def rInAll (K : PySem.W.Frag) (neg : Bool) : R2 := fun x y H Q => (∃ b, ((∃ d ds, Dp K H x d ∧ Dp K H y (.list ds) ∧ SeqAt.shaped d = true ∧ SeqAt.shaped (.list ds) = true ∧ b = ds.any fun z => PyData.eqv z d) ∨
  (∃ p xs, y = .ref p ∧ (SqL K H p xs ∨ SqT K H p xs) ∧ flatV x = true ∧ xs.all flatV = true ∧ b = inV x xs) ∨ ∃ i j, x = .str i ∧ y = .str j ∧ b = !(Builtin.Str.occurrences j i 0 j.length 1).isEmpty) ∧ Q (.bl (if neg then !b else b)) H)
theorem gInB_ok {x y : D} {b neg : Bool} {v1 v2 : V} {H : Hp} {Z : ZS} {f1 f2 : FP} {Q : VK} (h1 : RepD K cA H Z x v1 f1) (h2 : RepD K cA H Z y v2 f2) (hg : gInB x y = some b) (q : Q (.bl (if neg then !b else b)) H) : rInAll K neg v1 v2 H Q := by
  refine ⟨b, ?_, q⟩
  unfold gInB at hg
  split at hg
  · rename_i o ys
    split at hg
    · rename_i hp
      cases hg
      obtain ⟨p, vs, g, rfl, e1, r1, _⟩ := rep_lst h2
      refine .inl ⟨pyD x, pyL ys, rep_dp x 60 hp.1 h1, Dp.lst (SqL.of e1) (rep_dpL ys 60 hp.2 r1), shaped_pD hp.1 (by decide), ?_, (any_eqv hp.1 hp.2).symm⟩
      exact shaped_pD (d := .lst o ys) (n := 61) (by simpa [pD] using hp.2) (by decide)
    · cases hg
  · rename_i o ys
    split at hg
    · rename_i hp
      cases hg
      obtain ⟨p, vs, rfl, e1, r1, _⟩ := rep_tup h2
      cases x with
      | n k o xs => simp [isA] at hp
      | a z =>
        obtain ⟨e, _⟩ := h1
        subst e
        obtain ⟨a, b⟩ := repL_atoms r1 hp.2
        exact .inr (.inl ⟨p, vs, rfl, .inr e1, flat_at z, a, (b z).symm⟩)
    · cases hg
  · rename_i t
    split at hg
    · rename_i s
      cases hg
      obtain ⟨e1, _⟩ := h1
      obtain ⟨e2, _⟩ := h2
      subst e1 e2
      exact .inr (.inr ⟨s, t, rfl, rfl, rfl⟩)
    · cases hg
  · cases hg
theorem vop_in : VOpP K cA (rInAll K false) gIn := by
  refine ⟨@fun d1 d2 d v1 v2 H Z f1 f2 Q h1 h2 hg q => ?_⟩
  unfold gIn at hg
  cases e : gInB d1 d2 with
  | none => rw [e] at hg; cases hg
  | some b =>
    rw [e] at hg
    cases hg
    exact gInB_ok h1 h2 e (q _ rfl)
theorem vop_notin : VOpP K cA (rInAll K true) gNotIn := by
  refine ⟨@fun d1 d2 d v1 v2 H Z f1 f2 Q h1 h2 hg q => ?_⟩
  unfold gNotIn at hg
  cases e : gInB d1 d2 with
  | none => rw [e] at hg; cases hg
  | some b =>
    rw [e] at hg
    cases hg
    exact gInB_ok h1 h2 e (q _ rfl)
theorem gIn_at : ∀ d1 d2 d, gIn d1 d2 = some d → ∃ x, d = .a x := fun d1 d2 d h => by
  unfold gIn at h
  cases e : gInB d1 d2 with
  | none => rw [e] at h; cases h
  | some b => rw [e] at h; cases h; exact ⟨_, rfl⟩
theorem gNotIn_at : ∀ d1 d2 d, gNotIn d1 d2 = some d → ∃ x, d = .a x := fun d1 d2 d h => by
  unfold gNotIn at h
  cases e : gInB d1 d2 with
  | none => rw [e] at h; cases h
  | some b => rw [e] at h; cases h; exact ⟨_, rfl⟩
end
section
variable {X : Cx}
theorem op_inAll (hu : X.A.units + 65 < cLine) : OpR X (compareOp .In) (rInAll X.K false) := by
  intro pins s σ H x y v u Q I rx ry h
  obtain ⟨b, h, q⟩ := h
  rcases h with ⟨d, ds, h1, h2, s1, s2, rfl⟩ | ⟨p, xs, h1, h2, h3, h4, rfl⟩ | ⟨i, j, h1, h2, rfl⟩
  · exact op_inD hu pins s σ H x y v u Q I rx ry ⟨d, ds, h1, h2, s1, s2, q⟩
  · exact op_in_seq pins s σ H x y v u Q I rx ry ⟨p, xs, h1, h2, h3, h4, q⟩
  · exact op_in_str pins s σ H x y v u Q I rx ry ⟨i, j, h1, h2, q⟩
theorem op_notInAll (hu : X.A.units + 65 < cLine) : OpR X (compareOp .NotIn) (rInAll X.K true) := by
  intro pins s σ H x y v u Q I rx ry h
  obtain ⟨b, h, q⟩ := h
  rcases h with ⟨d, ds, h1, h2, s1, s2, rfl⟩ | ⟨p, xs, h1, h2, h3, h4, rfl⟩ | ⟨i, j, h1, h2, rfl⟩
  · exact op_notInD hu pins s σ H x y v u Q I rx ry ⟨d, ds, h1, h2, s1, s2, q⟩
  · exact op_notIn_seq pins s σ H x y v u Q I rx ry ⟨p, xs, h1, h2, h3, h4, q⟩
  · exact op_notin_str pins s σ H x y v u Q I rx ry ⟨i, j, h1, h2, q⟩
end
end DL
namespace DL
open PySem L2

/-! ### comparisons -/
abbrev gEq : D → D → Option D := gOr gEqA gEqP
abbrev gNe : D → D → Option D := gOr gNeA gNeP
abbrev gLt : D → D → Option D := gIB fun i j => decide (i < j)
abbrev gLe : D → D → Option D := gIB fun i j => decide (i ≤ j)
abbrev gGt : D → D → Option D := gIB fun i j => decide (j < i)
abbrev gGe : D → D → Option D := gIB fun i j => decide (j ≤ i)
/-- a comparison rule: the operator, its reading, its function -/
structure CR2 (X : Cx) (cA : Str → Addr) (op : CmpOp) (g : D → D → Option D) : Prop where
  ex : ∃ r, OpR X (compareOp op) r ∧ VOp2 X.K cA r g ∧ op ≠ .In ∧ op ≠ .NotIn
section
variable {X : Cx} {cA : Str → Addr}
theorem cr_eq (hu : X.A.units + 64 < cLine) : CR2 X cA .Eq gEq := ⟨_, op_eq.or (op_eqD hu), vop_or vop_eqA vop_eqP, by decide, by decide⟩
theorem cr_ne (hu : X.A.units + 64 < cLine) : CR2 X cA .NotEq gNe := ⟨_, op_ne.or (op_neD hu), vop_or vop_neA vop_neP, by decide, by decide⟩
theorem cr_lt : CR2 X cA .Lt gLt := ⟨_, op_lt, vop_ib, by decide, by decide⟩
theorem cr_le : CR2 X cA .LtE gLe := ⟨_, op_le, vop_ib, by decide, by decide⟩
theorem cr_gt : CR2 X cA .Gt gGt := ⟨_, op_gt, vop_ib, by decide, by decide⟩
theorem cr_ge : CR2 X cA .GtE gGe := ⟨_, op_ge, vop_ib, by decide, by decide⟩
theorem cr_is : CR2 X cA .Is gIs := ⟨_, op_isBl.or op_isN, vop_is, by decide, by decide⟩
theorem cr_isnot : CR2 X cA .IsNot gIsNot := ⟨_, op_notBl.or op_notN, vop_isnot, by decide, by decide⟩
end
/-- an answer as a truth value -/
def dB (f : Env → Out D) : Env → Out Bool := fun ρ => match f ρ with
  | .ok (.a (.bl b)) ρ' => .ok b ρ'
  | .ok _ _ => .st
  | .ex e ρ' => .ex e ρ'
  | .st => .st
section
variable {X : Cx} {cA : Str → Addr} {W : WX} {fa fb fc : Env → Out D} {a b c : Expr} {pos : Pos}
theorem tt_of {K : PySem.W.Frag} {t : TE} {f : Env → Out D} (h : ∀ σ H Q, TEof K cA W f σ H Q → t σ H Q) : ∀ σ H Q, TTof K cA W (dB f) σ H Q → t σ H (fun x H' => ∃ k, x = .bl k ∧ Q k H') := by
  rintro σ H Q ⟨Z, L, ρ, r, w, p⟩
  refine h σ H _ ⟨Z, L, ρ, r, w, ?_⟩
  unfold dB at p
  cases hf : f ρ with
  | st => rw [hf] at p; exact p.elim
  | ex e ρ' => rw [hf] at p; exact p
  | ok d ρ' =>
    rw [hf] at p
    intro v H' Z' L' fp r' w' h' f'
    cases d with
    | n k o xs => exact p.elim
    | a x =>
      cases x with
      | bl k =>
        obtain ⟨e1, e2⟩ := h'
        subst e1 e2
        exact ⟨k, rfl, p H' Z' L' r' w' f'⟩
      | non => exact p.elim
      | int i => exact p.elim
      | str s => exact p.elim
theorem de_cr {op : CmpOp} {g : D → D → Option D} (C : CR2 X cA op g) (ha : DE X cA W fa a) (hb : DE X cA W fb b) : DE X cA W (dOp2 g fa fb) (.Compare a [op] [b] pos) := by
  obtain ⟨r, ho, V, h1, h2⟩ := C.ex
  exact de_cmp ho V ha hb (nomark b h1 h2)
theorem dt_cr {op : CmpOp} {g : D → D → Option D} (C : CR2 X cA op g) (ha : DE X cA W fa a) (hb : DE X cA W fb b) : DT X cA W (dB (dOp2 g fa fb)) (.Compare a [op] [b] pos) := by
  obtain ⟨r, ho, V, h1, h2⟩ := C.ex
  exact PT.imp (pt_cmpR ho ha hb (nomark b h1 h2)) (tt_of (te_op2 V))
theorem de_in (hu : X.A.units + 65 < cLine) (ha : DE X cA W fa a) (hb : DP X cA W fb b) (hm : behindInMarks .In b = false := by kernel_rfl) : DE X cA W (dOp2 gIn fa fb) (.Compare a [.In] [b] pos) :=
  PE.imp (pe_cmpR (op_inAll hu) ha hb hm) (te_opP vop_in gIn_at)
theorem dt_in (hu : X.A.units + 65 < cLine) (ha : DE X cA W fa a) (hb : DP X cA W fb b) (hm : behindInMarks .In b = false := by kernel_rfl) : DT X cA W (dB (dOp2 gIn fa fb)) (.Compare a [.In] [b] pos) :=
  PT.imp (pt_cmpR (op_inAll hu) ha hb hm) (tt_of (te_opP vop_in gIn_at))
theorem de_notin (hu : X.A.units + 65 < cLine) (ha : DE X cA W fa a) (hb : DP X cA W fb b) (hm : behindInMarks .NotIn b = false := by kernel_rfl) : DE X cA W (dOp2 gNotIn fa fb) (.Compare a [.NotIn] [b] pos) :=
  PE.imp (pe_cmpR (op_notInAll hu) ha hb hm) (te_opP vop_notin gNotIn_at)
theorem dt_notin (hu : X.A.units + 65 < cLine) (ha : DE X cA W fa a) (hb : DP X cA W fb b) (hm : behindInMarks .NotIn b = false := by kernel_rfl) : DT X cA W (dB (dOp2 gNotIn fa fb)) (.Compare a [.NotIn] [b] pos) :=
  PT.imp (pt_cmpR (op_notInAll hu) ha hb hm) (tt_of (te_opP vop_notin gNotIn_at))
/-- a < b < c, of ints -/
def dChain (g g' : D → D → Option D) (fa fb fc : Env → Out D) : Env → Out D := fun ρ => match fa ρ with
  | .ok d1 ρ1 => (match fb ρ1 with
    | .ok d2 ρ2 => (match g d1 d2 with
      | some (.a (.bl true)) => (match d2 with
        | .a y => (match fc ρ2 with
          | .ok d3 ρ3 => (match g' (.a y) d3 with
            | some d => .ok d ρ3
            | none => .st)
          | .ex e ρ3 => .ex e ρ3
          | .st => .st)
        | _ => .st)
      | some (.a (.bl false)) => .ok (.bl false) ρ2
      | _ => .st)
    | .ex e ρ2 => .ex e ρ2
    | .st => .st)
  | .ex e ρ1 => .ex e ρ1
  | .st => .st
theorem te_chain {K : PySem.W.Frag} {r r' : R2} {g g' : D → D → Option D} (V : VOp2 K cA r g) (V' : VOp2 K cA r' g') : ∀ σ H Q, TEof K cA W (dChain g g' fa fb fc) σ H Q → tChain r r' (TEof K cA W fa) (TEof K cA W fb) (TEof K cA W fc) σ H Q := by
  rintro σ H Q ⟨Z, L, ρ, r0, w, p⟩
  refine ⟨Z, L, ρ, r0, w, ?_⟩
  unfold dChain at p
  cases ha : fa ρ with
  | st => rw [ha] at p; exact p
  | ex e ρ' => rw [ha] at p; exact p
  | ok d1 ρ1 =>
    rw [ha] at p
    intro v1 H1 Z1 L1 f1 r1 w1 h1 F1
    refine ⟨Z1, L1, ρ1, r1, w1.less (List.sublist_append_right _ _), ?_⟩
    dsimp only at p
    cases hb : fb ρ1 with
    | st => rw [hb] at p; exact p
    | ex e ρ' =>
      rw [hb] at p
      exact exw p (F1.less fun x m => by simp [m])
    | ok d2 ρ2 =>
      rw [hb] at p
      intro v2 H2 Z2 L2 f2 r2 w2 h2 F2
      dsimp only at p
      have w12 : Wf H2 Z2 (f1 ++ (f2 ++ L2)) := w1.wait (repD_trk d1 h1) F2 w2
      have F12 := Fr.wait w1 F1 F2
      rw [← List.append_assoc] at w12 F12
      cases hg : g d1 d2 with
      | none => rw [hg] at p; exact p.elim
      | some d =>
        rw [hg] at p
        refine V.run (repD_wait w1 h1 F2) h2 (w12.less (List.sublist_append_left _ _)) hg fun v H3 Z3 fp h3 w3 F3 => ?_
        obtain ⟨r3, w4, F4⟩ := hand w12 r2 F3 w3
        cases d with
        | n k o xs => exact p.elim
        | a x =>
          cases x with
          | non => exact p.elim
          | int i => exact p.elim
          | str s => exact p.elim
          | bl k =>
            obtain ⟨e1, e2⟩ := h3
            subst e1 e2
            refine ⟨k, rfl, ?_⟩
            have F5 := F12.trans F4
            cases k with
            | false =>
              rw [if_neg Bool.false_ne_true]
              exact p _ H3 Z3 L2 [] r3 w4 ⟨rfl, rfl⟩ F5
            | true =>
              rw [if_pos rfl]
              dsimp only at p
              cases d2 with
              | n k o xs => exact p.elim
              | a y =>
                obtain ⟨e1, e2⟩ := h2
                subst e1 e2
                dsimp only at p
                refine ⟨Z3, L2, ρ2, r3, w4, ?_⟩
                cases hc : fc ρ2 with
                | st => rw [hc] at p; exact p
                | ex e ρ' =>
                  rw [hc] at p
                  exact exw p F5
                | ok d3 ρ3 =>
                  rw [hc] at p
                  intro v5 H5 Z5 L5 f5 r5 w5 h5 F6
                  dsimp only at p
                  cases hg' : g' (.a y) d3 with
                  | none => rw [hg'] at p; exact p.elim
                  | some d =>
                    rw [hg'] at p
                    refine V'.run (f1 := []) (d1 := .a y) ⟨rfl, rfl⟩ h5 (w5.less (List.sublist_append_left _ _)) hg' fun v H6 Z6 fp h6 w6 F7 => ?_
                    obtain ⟨r7, w7, F8⟩ := hand w5 r5 F7 w6
                    exact p v H6 Z6 L5 fp r7 w7 h6 ((F5.trans F6).trans F8)
theorem de_chain {op op' : CmpOp} {g g' : D → D → Option D} (C : CR2 X cA op g) (C' : CR2 X cA op' g') (ha : DE X cA W fa a) (hb : DE X cA W fb b) (hc : DE X cA W fc c)
    (hm : lastMarks [op, op'] [b, c] = false := by kernel_rfl) : DE X cA W (dChain g g' fa fb fc) (.Compare a [op, op'] [b, c] pos) := by
  obtain ⟨r, ho, V, h1, h2⟩ := C.ex
  obtain ⟨r', ho', V', h1', h2'⟩ := C'.ex
  exact PE.imp (pe_chain ho ho' ha hb hc hm) (te_chain V V')
theorem dt_chain {op op' : CmpOp} {g g' : D → D → Option D} (C : CR2 X cA op g) (C' : CR2 X cA op' g') (ha : DE X cA W fa a) (hb : DE X cA W fb b) (hc : DE X cA W fc c)
    (hm : lastMarks [op, op'] [b, c] = false := by kernel_rfl) : DT X cA W (dB (dChain g g' fa fb fc)) (.Compare a [op, op'] [b, c] pos) := by
  obtain ⟨r, ho, V, h1, h2⟩ := C.ex
  obtain ⟨r', ho', V', h1', h2'⟩ := C'.ex
  exact PT.imp (pt_chain ho ho' ha hb hc hm) (tt_of (te_chain V V'))
/-- an expression that gives a truth value -/
theorem dt_val {f : Env → Out D} {e : Expr} (h : DE X cA W f e) (he : ∀ whole, isTrue e X.env whole = (do let v ← whole; standAt e.pos; holding [v] (truthy v)) := by intro _; kernel_rfl) : DT X cA W (dB f) e :=
  PT.imp (pt_val h he) (tt_of fun _ _ _ t => t)

/-! ### and, or, not -/
def dAndT (f g : Env → Out Bool) : Env → Out Bool := fun ρ => match f ρ with
  | .ok true ρ1 => g ρ1
  | .ok false ρ1 => .ok false ρ1
  | .ex e ρ1 => .ex e ρ1
  | .st => .st
def dOrT (f g : Env → Out Bool) : Env → Out Bool := fun ρ => match f ρ with
  | .ok true ρ1 => .ok true ρ1
  | .ok false ρ1 => g ρ1
  | .ex e ρ1 => .ex e ρ1
  | .st => .st
def dNotT (f : Env → Out Bool) : Env → Out Bool := fun ρ => match f ρ with
  | .ok b ρ1 => .ok (!b) ρ1
  | .ex e ρ1 => .ex e ρ1
  | .st => .st
variable {ta tb : Env → Out Bool} {rest : List Expr}
theorem dw_and1 (ha : DT X cA W ta a) : DW X cA W ta (.BoolOp .And [a] pos) := pw_and1 ha
theorem dw_or1 (ha : DT X cA W ta a) : DW X cA W ta (.BoolOp .Or [a] pos) := pw_or1 ha
theorem tt_and {K : PySem.W.Frag} : ∀ σ H Q, TTof K cA W (dAndT ta tb) σ H Q → tAnd (TTof K cA W ta) (TTof K cA W tb) σ H Q := by
  rintro σ H Q ⟨Z, L, ρ, r0, w, p⟩
  refine ⟨Z, L, ρ, r0, w, ?_⟩
  unfold dAndT at p
  cases ha : ta ρ with
  | st => rw [ha] at p; exact p
  | ex e ρ' => rw [ha] at p; exact p
  | ok k ρ1 =>
    rw [ha] at p
    intro H1 Z1 L1 r1 w1 F1
    cases k with
    | false => exact p H1 Z1 L1 r1 w1 F1
    | true =>
      rw [if_pos rfl]
      refine ⟨Z1, L1, ρ1, r1, w1, ?_⟩
      dsimp only at p
      cases hb : tb ρ1 with
      | st => rw [hb] at p; exact p
      | ex e ρ' => rw [hb] at p; exact exw p F1
      | ok k ρ2 =>
        rw [hb] at p
        exact fun H2 Z2 L2 r2 w2 F2 => p H2 Z2 L2 r2 w2 (F1.trans F2)
theorem tt_or {K : PySem.W.Frag} : ∀ σ H Q, TTof K cA W (dOrT ta tb) σ H Q → tOr (TTof K cA W ta) (TTof K cA W tb) σ H Q := by
  rintro σ H Q ⟨Z, L, ρ, r0, w, p⟩
  refine ⟨Z, L, ρ, r0, w, ?_⟩
  unfold dOrT at p
  cases ha : ta ρ with
  | st => rw [ha] at p; exact p
  | ex e ρ' => rw [ha] at p; exact p
  | ok k ρ1 =>
    rw [ha] at p
    intro H1 Z1 L1 r1 w1 F1
    cases k with
    | true => exact p H1 Z1 L1 r1 w1 F1
    | false =>
      rw [if_neg Bool.false_ne_true]
      refine ⟨Z1, L1, ρ1, r1, w1, ?_⟩
      dsimp only at p
      cases hb : tb ρ1 with
      | st => rw [hb] at p; exact p
      | ex e ρ' => rw [hb] at p; exact exw p F1
      | ok k ρ2 =>
        rw [hb] at p
        exact fun H2 Z2 L2 r2 w2 F2 => p H2 Z2 L2 r2 w2 (F1.trans F2)
theorem tt_not {K : PySem.W.Frag} : ∀ σ H Q, TTof K cA W (dNotT ta) σ H Q → tNot (TTof K cA W ta) σ H Q := by
  rintro σ H Q ⟨Z, L, ρ, r0, w, p⟩
  refine ⟨Z, L, ρ, r0, w, ?_⟩
  unfold dNotT at p
  cases ha : ta ρ with
  | st => rw [ha] at p; exact p
  | ex e ρ' => rw [ha] at p; exact p
  | ok k ρ1 => rw [ha] at p; exact p
theorem dw_and (ha : DT X cA W ta a) (hb : DW X cA W tb (.BoolOp .And (b :: rest) pos)) : DW X cA W (dAndT ta tb) (.BoolOp .And (a :: b :: rest) pos) := PW.imp (pw_and ha hb) tt_and
theorem dw_or (ha : DT X cA W ta a) (hb : DW X cA W tb (.BoolOp .Or (b :: rest) pos)) : DW X cA W (dOrT ta tb) (.BoolOp .Or (a :: b :: rest) pos) := PW.imp (pw_or ha hb) tt_or
theorem dt_w {e : Expr} (h : DW X cA W ta e) : DT X cA W ta e := h.pt
theorem dt_not (ha : DT X cA W ta a) : DT X cA W (dNotT ta) (.UnaryOp .Not a pos) := PT.imp (pt_not ha) tt_not
/-- as values -/
def dAndV (f g : Env → Out D) : Env → Out D := fun ρ => match dB f ρ with
  | .ok true ρ1 => g ρ1
  | .ok false ρ1 => .ok (.bl false) ρ1
  | .ex e ρ1 => .ex e ρ1
  | .st => .st
def dOrV (f g : Env → Out D) : Env → Out D := fun ρ => match dB f ρ with
  | .ok true ρ1 => .ok (.bl true) ρ1
  | .ok false ρ1 => g ρ1
  | .ex e ρ1 => .ex e ρ1
  | .st => .st
def dNotV (f : Env → Out D) : Env → Out D := fun ρ => match dB f ρ with
  | .ok b ρ1 => .ok (.bl (!b)) ρ1
  | .ex e ρ1 => .ex e ρ1
  | .st => .st
theorem de_one {op} {f : Env → Out D} (h : DE X cA W f a) : DE X cA W f (.BoolOp op [a] pos) := pe_one h
theorem te_and {K : PySem.W.Frag} : ∀ σ H Q, TEof K cA W (dAndV fa fb) σ H Q → tAndV (TEof K cA W fa) (TEof K cA W fb) σ H Q := by
  rintro σ H Q ⟨Z, L, ρ, r0, w, p⟩
  refine tt_of (f := fa) (fun _ _ _ t => t) σ H (fun k H1 => if k = true then TEof K cA W fb σ H1 Q else Q (.bl false) H1) ⟨Z, L, ρ, r0, w, ?_⟩
  unfold dAndV at p
  cases ha : dB fa ρ with
  | st => rw [ha] at p; exact p
  | ex e ρ' => rw [ha] at p; exact p
  | ok k ρ1 =>
    rw [ha] at p
    intro H1 Z1 L1 r1 w1 F1
    cases k with
    | false =>
      show Q (.bl false) H1
      exact p _ H1 Z1 L1 [] r1 w1 ⟨rfl, rfl⟩ F1
    | true =>
      show TEof K cA W fb σ H1 Q
      refine ⟨Z1, L1, ρ1, r1, w1, ?_⟩
      dsimp only at p
      cases hb : fb ρ1 with
      | st => rw [hb] at p; exact p
      | ex e ρ' => rw [hb] at p; exact exw p F1
      | ok k ρ2 =>
        rw [hb] at p
        exact fun v H2 Z2 L2 fp r2 w2 h2 F2 => p v H2 Z2 L2 fp r2 w2 h2 (F1.trans F2)
theorem te_or {K : PySem.W.Frag} : ∀ σ H Q, TEof K cA W (dOrV fa fb) σ H Q → tOrV (TEof K cA W fa) (TEof K cA W fb) σ H Q := by
  rintro σ H Q ⟨Z, L, ρ, r0, w, p⟩
  refine tt_of (f := fa) (fun _ _ _ t => t) σ H (fun k H1 => if k = true then Q (.bl true) H1 else TEof K cA W fb σ H1 Q) ⟨Z, L, ρ, r0, w, ?_⟩
  unfold dOrV at p
  cases ha : dB fa ρ with
  | st => rw [ha] at p; exact p
  | ex e ρ' => rw [ha] at p; exact p
  | ok k ρ1 =>
    rw [ha] at p
    intro H1 Z1 L1 r1 w1 F1
    cases k with
    | true =>
      show Q (.bl true) H1
      exact p _ H1 Z1 L1 [] r1 w1 ⟨rfl, rfl⟩ F1
    | false =>
      show TEof K cA W fb σ H1 Q
      refine ⟨Z1, L1, ρ1, r1, w1, ?_⟩
      dsimp only at p
      cases hb : fb ρ1 with
      | st => rw [hb] at p; exact p
      | ex e ρ' => rw [hb] at p; exact exw p F1
      | ok k ρ2 =>
        rw [hb] at p
        exact fun v H2 Z2 L2 fp r2 w2 h2 F2 => p v H2 Z2 L2 fp r2 w2 h2 (F1.trans F2)
theorem te_not {K : PySem.W.Frag} : ∀ σ H Q, TEof K cA W (dNotV fa) σ H Q → tNotV (TEof K cA W fa) σ H Q := by
  rintro σ H Q ⟨Z, L, ρ, r0, w, p⟩
  refine tt_of (f := fa) (fun _ _ _ t => t) σ H (fun k H1 => Q (.bl (!k)) H1) ⟨Z, L, ρ, r0, w, ?_⟩
  unfold dNotV at p
  cases ha : dB fa ρ with
  | st => rw [ha] at p; exact p
  | ex e ρ' => rw [ha] at p; exact p
  | ok k ρ1 =>
    rw [ha] at p
    exact fun H1 Z1 L1 r1 w1 F1 => p _ H1 Z1 L1 [] r1 w1 ⟨rfl, rfl⟩ F1
theorem de_and2 (ha : DE X cA W fa a) (hb : DE X cA W fb (.BoolOp .And (b :: rest) pos)) : DE X cA W (dAndV fa fb) (.BoolOp .And (a :: b :: rest) pos) := PE.imp (pe_and ha hb) te_and
theorem de_or2 (ha : DE X cA W fa a) (hb : DE X cA W fb (.BoolOp .Or (b :: rest) pos)) : DE X cA W (dOrV fa fb) (.BoolOp .Or (a :: b :: rest) pos) := PE.imp (pe_or ha hb) te_or
theorem de_notV (ha : DE X cA W fa a) : DE X cA W (dNotV fa) (.UnaryOp .Not a pos) := PE.imp (pe_not ha) te_not
/-- a if t else b -/
def dIfE (t : Env → Out Bool) (f g : Env → Out D) : Env → Out D := fun ρ => match t ρ with
  | .ok true ρ1 => f ρ1
  | .ok false ρ1 => g ρ1
  | .ex e ρ1 => .ex e ρ1
  | .st => .st
theorem postE_tr {K : PySem.W.Frag} {σ : L2.St} {H H1 : Hp} {Z Z1 : ZS} {L L1 : FP} {Q : VK} {o : Out D} (F : Fr H Z L H1 Z1 L1) (p : PostE K cA W σ H Z L Q o) : PostE K cA W σ H1 Z1 L1 Q o := by
  cases o with
  | st => exact p
  | ex e ρ' => exact exw p F
  | ok d ρ' => exact fun v H2 Z2 L2 fp r2 w2 h2 F2 => p v H2 Z2 L2 fp r2 w2 h2 (F.trans F2)
theorem te_if {K : PySem.W.Frag} : ∀ σ H Q, TEof K cA W (dIfE ta fa fb) σ H Q → tIf (TTof K cA W ta) (TEof K cA W fa) (TEof K cA W fb) σ H Q := by
  rintro σ H Q ⟨Z, L, ρ, r0, w, p⟩
  refine ⟨Z, L, ρ, r0, w, ?_⟩
  unfold dIfE at p
  cases ha : ta ρ with
  | st => rw [ha] at p; exact p
  | ex e ρ' => rw [ha] at p; exact p
  | ok k ρ1 =>
    rw [ha] at p
    intro H1 Z1 L1 r1 w1 F1
    cases k with
    | true => exact ⟨Z1, L1, ρ1, r1, w1, postE_tr F1 p⟩
    | false => exact ⟨Z1, L1, ρ1, r1, w1, postE_tr F1 p⟩
theorem de_ifE (ht : DT X cA W ta c) (ha : DE X cA W fa a) (hb : DE X cA W fb b) : DE X cA W (dIfE ta fa fb) (.IfExp c a b pos) := PE.imp (pe_ifExp ht ha hb) te_if
end

/-! ### arguments -/
def dANil : Env → Out (List Ag) := fun ρ => .ok [] ρ
def dACons (f : Env → Out D) (g : Env → Out (List Ag)) : Env → Out (List Ag) := fun ρ => match f ρ with
  | .ok d ρ1 => (match g ρ1 with
    | .ok ds ρ2 => .ok (.d d :: ds) ρ2
    | .ex e ρ2 => .ex e ρ2
    | .st => .st)
  | .ex e ρ1 => .ex e ρ1
  | .st => .st
/-- a slot is lent -/
def dALent (i : Nat) (g : Env → Out (List Ag)) : Env → Out (List Ag) := fun ρ => match ρ[i]? with
  | some (some _) => (match g ρ with
    | .ok ds ρ2 => .ok (.s i :: ds) ρ2
    | .ex e ρ2 => .ex e ρ2
    | .st => .st)
  | _ => .st
section
variable {X : Cx} {cA : Str → Addr} {W : WX} {f : Env → Out D} {g : Env → Out (List Ag)} {e : Expr} {es : List Expr}
theorem repA_wait {K : PySem.W.Frag} {σ : L2.St} {H1 H2 : Hp} {Z1 Z2 : ZS} {L1 M : FP} : ∀ {ds : List Ag} {vs : List V} {fp : FP}, Wf H1 Z1 (fp ++ L1) → RepA K cA H1 Z1 σ ds vs fp → Fr H1 Z1 L1 H2 Z2 M → RepA K cA H2 Z2 σ ds vs fp
  | [], _, _, _, h, _ => h
  | .d x :: xs, vs, fp, w, h, F => by
    obtain ⟨v, vs', f1, f2, ev, h1, h2, ef⟩ := h
    subst ef
    refine ⟨v, vs', f1, f2, ev, ?_, ?_, rfl⟩
    · have w' : Wf H1 Z1 (f1 ++ L1) := w.less (List.Sublist.append (List.sublist_append_left _ _) (List.Sublist.refl _))
      exact repD_wait w' h1 F
    · have w' : Wf H1 Z1 (f2 ++ L1) := w.less (List.Sublist.append (List.sublist_append_right _ _) (List.Sublist.refl _))
      exact repA_wait w' h2 F
  | .s i :: xs, vs, fp, w, h, F => by
    obtain ⟨v, vs', ev, hv, h2⟩ := h
    exact ⟨v, vs', ev, hv, repA_wait w h2 F⟩
theorem da_nil : DA X cA W dANil [] := da_of pa_nil fun σ H Q Z L ρ r w p => p [] H Z L [] r w ⟨rfl, rfl⟩ Fr.refl
theorem da_cons (hf : DE X cA W f e) (hg : DA X cA W g es) (hs : starEach (e :: es) X.env = (false, eval e X.env) :: starEach es X.env := by kernel_rfl) : DA X cA W (dACons f g) (e :: es) := da_of (pa_cons hf hg hs) fun σ H Q Z L ρ r w p => by
  refine ⟨Z, L, ρ, r, w, ?_⟩
  unfold dACons at p
  cases ha : f ρ with
  | st => rw [ha] at p; exact p
  | ex e ρ' => rw [ha] at p; exact p
  | ok d1 ρ1 =>
    rw [ha] at p
    intro v1 H1 Z1 L1 f1 r1 w1 h1 F1
    refine ⟨Z1, L1, ρ1, r1, w1.less (List.sublist_append_right _ _), ?_⟩
    dsimp only at p
    cases hb : g ρ1 with
    | st => rw [hb] at p; exact p
    | ex e ρ' =>
      rw [hb] at p
      exact exw p (F1.less fun x m => by simp [m])
    | ok ds ρ2 =>
      rw [hb] at p
      intro vs H2 Z2 L2 f2 r2 w2 h2 F2
      have w12 : Wf H2 Z2 (f1 ++ (f2 ++ L2)) := w1.wait (repD_trk d1 h1) F2 w2
      have F12 := Fr.wait w1 F1 F2
      rw [← List.append_assoc] at w12 F12
      exact p (v1 :: vs) H2 Z2 L2 (f1 ++ f2) r2 w12 ⟨v1, vs, f1, f2, rfl, repD_wait w1 h1 F2, h2, rfl⟩ F12
theorem da_lent {i : Nat} (hf : PE X e (tVar i)) (hg : DA X cA W g es) (hs : starEach (e :: es) X.env = (false, eval e X.env) :: starEach es X.env := by kernel_rfl) : DA X cA W (dALent i g) (e :: es) := da_of (pa_cons hf hg hs) fun σ H Q Z L ρ r w p => by
  unfold dALent at p
  split at p
  · rename_i d hd
    obtain ⟨v, f0, f1, f2, hv, hr, ef, _, _⟩ := relL_at r hd
    refine ⟨v, hv, Z, L, ρ, r, w, ?_⟩
    cases hb : g ρ with
    | st => rw [hb] at p; exact p
    | ex e ρ' => rw [hb] at p; exact p
    | ok ds ρ2 =>
      rw [hb] at p
      exact fun vs H2 Z2 L2 fp r2 w2 h2 F2 => p (v :: vs) H2 Z2 L2 fp r2 w2 ⟨v, vs, rfl, hv, h2⟩ F2
  · exact p.elim
end
/-- values alone -/
def agL : List Ag → Option (List D)
  | [] => some []
  | .d x :: xs => (agL xs).map (x :: ·)
  | .s _ :: _ => none
theorem repA_L {K : PySem.W.Frag} {cA : Str → Addr} {σ : L2.St} {H : Hp} {Z : ZS} : ∀ {ds : List Ag} {xs : List D} {vs : List V} {fp : FP}, agL ds = some xs → RepA K cA H Z σ ds vs fp → RepL K cA H Z xs vs fp
  | [], xs, vs, fp, e, h => by
    cases e
    exact h
  | .d x :: ds, xs, vs, fp, e, h => by
    obtain ⟨v, vs', f1, f2, ev, h1, h2, ef⟩ := h
    unfold agL at e
    cases hd : agL ds with
    | none => rw [hd] at e; cases e
    | some ys =>
      rw [hd] at e
      cases e
      exact ⟨v, vs', f1, f2, ev, h1, repA_L hd h2, ef⟩
  | .s i :: ds, xs, vs, fp, e, h => by simp [agL] at e
/-- displays -/
def dTup (g : Env → Out (List Ag)) : Env → Out D := fun ρ => match g ρ with
  | .ok ds ρ1 => (match agL ds with
    | some xs => if xs.length ≤ cap then .ok (.tup (frzL xs)) ρ1 else .st
    | none => .st)
  | .ex e ρ1 => .ex e ρ1
  | .st => .st
def dLst (g : Env → Out (List Ag)) : Env → Out D := fun ρ => match g ρ with
  | .ok ds ρ1 => (match agL ds with
    | some xs => if xs.length ≤ cap then .ok (.lst true xs) ρ1 else .st
    | none => .st)
  | .ex e ρ1 => .ex e ρ1
  | .st => .st
section
variable {X : Cx} {cA : Str → Addr} {W : WX} {g : Env → Out (List Ag)} {es : List Expr} {pos : Pos}
theorem de_tup {x1} (h : DA X cA W g es) : DE X cA W (dTup g) (.Tuple es x1 pos) := de_of (pe_tup h) fun σ H Q Z L ρ r w p => by
  refine ⟨Z, L, ρ, r, w, ?_⟩
  unfold dTup at p
  cases ha : g ρ with
  | st => rw [ha] at p; exact p
  | ex e ρ' => rw [ha] at p; exact p
  | ok ds ρ1 =>
    rw [ha] at p
    dsimp only at p
    split at p
    · rename_i xs hx
      split at p
      · rename_i hl
        intro vs H1 Z1 L1 f1 r1 w1 h1 F1
        have hL := repA_L hx h1
        have len := repL_len hL
        refine ⟨cap_le (by omega), fun q hq => ?_⟩
        have wz := w1.freeze (repL_trk xs hL)
        obtain ⟨a, b, c⟩ := new_tup (wf0 wz) (repL_zu hL) hq
        obtain ⟨r3, w3, F3⟩ := hand0 wz (relL_zu r1) c b
        exact p _ _ _ L1 [] r3 w3 a (F1.freeze.trans F3)
      · exact p.elim
    · exact p.elim
theorem de_lst (h : DA X cA W g es) : DE X cA W (dLst g) (.List es pos) := de_of (pe_lst h) fun σ H Q Z L ρ r w p => by
  refine ⟨Z, L, ρ, r, w, ?_⟩
  unfold dLst at p
  cases ha : g ρ with
  | st => rw [ha] at p; exact p
  | ex e ρ' => rw [ha] at p; exact p
  | ok ds ρ1 =>
    rw [ha] at p
    dsimp only at p
    split at p
    · rename_i xs hx
      split at p
      · rename_i hl
        intro vs H1 Z1 L1 f1 r1 w1 h1 F1
        have hL := repA_L hx h1
        have len := repL_len hL
        refine ⟨cap_le (by omega), fun q hq => ?_⟩
        have kn := keep_new (o := .lst vs) hq
        have tr : ∀ a ∈ f1 ++ L1, ∃ o, H1 a = some o := fun a m => (List.mem_append.mp m).elim (repL_trk xs hL a) (relL_trk r1 a)
        refine p (.ref q) _ Z1 L1 (q :: f1) (relL_mono (fun _ z => z) (fun a o _ e => kn a o e) r1) (wf_new w1 hq tr) ⟨q, vs, f1, rfl, repL_mono xs (fun _ z => z) (fun a o _ e => kn a o e) hL, ⟨upd_same, fun z => nomatch z⟩, rfl, fun z => nomatch z⟩ (F1.trans (fr_new hq))
      · exact p.elim
    · exact p.elim
end
end DL
namespace DL
open PySem L2

/-! ### quiet expressions: an atom, nothing that stands changes -/
def TQof (K : PySem.W.Frag) (cA : Str → Addr) (g : Env → Option At) : TE := fun σ H Q => ∃ Z L ρ, RelL K cA H Z ρ σ L ∧ Wf H Z L ∧ ∃ x, g ρ = some x ∧ ∀ H', (∀ a o, H a = some o → H' a = some o) → Q x.v H'
def DQ (X : Cx) (cA : Str → Addr) (g : Env → Option At) (e : Expr) : Prop := PE X e (TQof X.K cA g)
def qC (x : At) : Env → Option At := fun _ => some x
def qVar (i : Nat) : Env → Option At := fun ρ => match ρ[i]? with
  | some (some (.a x)) => some x
  | _ => none
def qOp (f : Int → Int → Int) (g h : Env → Option At) : Env → Option At := fun ρ => match g ρ, h ρ with
  | some (.int i), some (.int j) => some (.int (f i j))
  | _, _ => none
def qLen (i : Nat) : Env → Option At := fun ρ => match ρ[i]? with
  | some (some (.n .lst _ xs)) => some (.int xs.length)
  | some (some (.n .tup _ xs)) => some (.int xs.length)
  | _ => none
section
variable {X : Cx} {cA : Str → Addr} {W : WX} {g h : Env → Option At} {a b : Expr} {pos : Pos}
theorem dq_int {i : Int} {j pos} : DQ X cA (qC (.int i)) (.Constant (.int i) j pos) := PE.imp pe_int fun σ H Q ⟨Z, L, ρ, r, w, x, e, q⟩ => by
  cases e
  exact q H fun _ _ e => e
theorem dq_var {i : Nat} {e : Expr} (h : PE X e (tVar i)) : DQ X cA (qVar i) e := PE.imp h fun σ H Q ⟨Z, L, ρ, r, w, x, e, q⟩ => by
  unfold qVar at e
  split at e
  · rename_i y hd
    cases e
    obtain ⟨v, f0, f1, f2, hv, hr, ef, _, _⟩ := relL_at r hd
    obtain ⟨e1, _⟩ := hr
    subst e1
    exact ⟨_, hv, q H fun _ _ e => e⟩
  · cases e
theorem dq_op {op : Operator} {f : Int → Int → Int} (ho : OpR X (binaryOp op) (rI0 fun i j => .int (f i j))) (ha : DQ X cA g a) (hb : DQ X cA h b) : DQ X cA (qOp f g h) (.BinOp a op b pos) := PE.imp (pe_op ho ha hb) fun σ H Q ⟨Z, L, ρ, r, w, x, e, q⟩ => by
  unfold qOp at e
  split at e
  · rename_i i j e1 e2
    cases e
    refine ⟨Z, L, ρ, r, w, _, e1, fun H1 k1 => ?_⟩
    refine ⟨Z, L, ρ, relL_mono (fun _ z => z) (fun a o _ e => k1 a o e) r, ⟨w.nd, w.dj, fun a z => let ⟨o, e⟩ := w.tz a z; ⟨o, k1 a o e⟩⟩, _, e2, fun H2 k2 => ?_⟩
    exact ⟨i, j, rfl, rfl, q H2 fun a o e => k2 a o (k1 a o e)⟩
  · cases e
theorem dq_add (ha : DQ X cA g a) (hb : DQ X cA h b) : DQ X cA (qOp (fun i j => i + j) g h) (.BinOp a .Add b pos) := dq_op op_add ha hb
theorem dq_sub (ha : DQ X cA g a) (hb : DQ X cA h b) : DQ X cA (qOp (fun i j => i - j) g h) (.BinOp a .Sub b pos) := dq_op op_sub ha hb
theorem dq_neg (ha : DQ X cA g a) : DQ X cA (qOp (fun i j => i - j) (qC (.int 0)) g) (.UnaryOp .USub a pos) := PE.imp (pe_un un_neg ha) fun σ H Q ⟨Z, L, ρ, r, w, x, e, q⟩ => by
  unfold qOp at e
  split at e
  · rename_i i j e1 e2
    cases e
    cases e1
    refine ⟨Z, L, ρ, r, w, _, e2, fun H1 k1 => ⟨j, rfl, ?_⟩⟩
    have z : (0 : Int) - j = -j := Int.zero_sub j
    have q1 := q H1 k1
    dsimp only at q1
    rw [z] at q1
    exact q1
  · cases e
theorem dq_len {i : Nat} {x : Str} {p : Pos} (hg : Gl X x) (hm : X.mg x = none) (hv : bootBuiltins x = some (.builtin "len")) (ha : PE X a (tVar i)) (hn : x ≠ "__name__" := by decide +kernel) (hdb : (x == ("__debug__" : Str)) = false := by kernel_rfl)
    (hs : starEach [a] X.env = (false, eval a X.env) :: starEach [] X.env := by kernel_rfl) : DQ X cA (qLen i) (.Call (.Name x p) [a] [] pos) :=
  PE.imp (pe_callB call_len hg hm hv (pa_cons ha pa_nil hs) hn hdb hs rfl) fun σ H Q ⟨Z, L, ρ, r, w, x, e, q⟩ => by
    unfold qLen at e
    split at e
    · rename_i o xs hd
      cases e
      obtain ⟨v, f0, f1, f2, hv, hr, ef, _, _⟩ := relL_at r hd
      obtain ⟨p, vs, g, rfl, e1, r1, _⟩ := rep_lst hr
      exact ⟨_, hv, _, xs.length, rfl, .inl ⟨vs, SqL.of e1, (repL_len r1).symm⟩, q H fun _ _ e => e⟩
    · rename_i o xs hd
      cases e
      obtain ⟨v, f0, f1, f2, hv, hr, ef, _, _⟩ := relL_at r hd
      obtain ⟨p, vs, rfl, e1, r1, _⟩ := rep_tup hr
      exact ⟨_, hv, _, xs.length, rfl, .inr ⟨vs, e1, (repL_len r1).symm⟩, q H fun _ _ e => e⟩
    · cases e
end

/-! ### items -/
def ixD {α : Type} (xs : List α) (i : Int) : Option α := atI xs i
def gIxO (x y : D) : Option D := match y with
  | .a (.int i) => (match x with
    | .n .lst _ xs => atI xs i
    | .n .scr _ xs => atI xs i
    | .n .tup _ xs => atI xs i
    | .a (.str s) => if s.length ≤ cap then (atI s.cps.toList i).map fun c => D.str ⟨#[c]⟩ else none
    | _ => none)
  | _ => none
/-- the item is frozen -/
def gIx (x y : D) : Option D := match gIxO x y with
  | some d => if isF d = true then some d else none
  | none => none
section
variable {K : PySem.W.Frag} {cA : Str → Addr} {H : Hp} {Z : ZS}
theorem atI_rep {xs : List D} {vs : List V} {g : FP} {i : Int} {d : D} (h : RepL K cA H Z xs vs g) (e : atI xs i = some d) : ∃ v f0 f1 f2, atI vs i = some v ∧ RepD K cA H Z d v f1 ∧ g = f0 ++ f1 ++ f2 := by
  unfold atI at e ⊢
  rw [repL_len h]
  cases hj : ixN xs.length i with
  | none => rw [hj] at e; cases e
  | some j =>
    rw [hj] at e
    exact repL_get h e
/-- what an item is, by values -/
theorem ix_rep {x y d : D} {v1 v2 : V} {f1 f2 : FP} {Q : VK} (h1 : RepD K cA H Z x v1 f1) (h2 : RepD K cA H Z y v2 f2) (hg : gIxO x y = some d) (q : ∀ v f0 f f3, RepD K cA H Z d v f → (f = [] ∨ ∃ p, f1 = p :: (f0 ++ f ++ f3)) → Q v H) : rIx K v1 v2 H Q := by
  unfold gIxO at hg
  split at hg
  · rename_i i
    obtain ⟨e2, _⟩ := h2
    subst e2
    split at hg
    · rename_i o xs
      obtain ⟨p, vs, g, rfl, e1, r1, ef, hz⟩ := rep_lst h1
      obtain ⟨v, g0, g1, g2, hv, hr, eg⟩ := atI_rep r1 hg
      refine .inl ⟨p, vs, i, v, rfl, rfl, SqL.of e1, hv, q v g0 g1 g2 hr ?_⟩
      cases o with
      | true => exact .inr ⟨p, by rw [ef, eg]; rfl⟩
      | false =>
        have := (hz rfl).2
        rw [this] at eg
        left
        have e3 := congrArg List.length eg
        simp at e3
        exact List.eq_nil_of_length_eq_zero (by omega)
    · rename_i o xs
      obtain ⟨p, vs, rfl, e1, r1, ef, _⟩ := rep_scr h1
      obtain ⟨v, g0, g1, g2, hv, hr, eg⟩ := atI_rep r1 hg
      refine .inl ⟨p, vs, i, v, rfl, rfl, e1, hv, q v g0 g1 g2 hr ?_⟩
      left
      have e3 := congrArg List.length eg
      simp at e3
      exact List.eq_nil_of_length_eq_zero (by omega)
    · rename_i o xs
      obtain ⟨p, vs, rfl, e1, r1, ef, _⟩ := rep_tup h1
      obtain ⟨v, g0, g1, g2, hv, hr, eg⟩ := atI_rep r1 hg
      refine .inr (.inl ⟨p, vs, i, v, rfl, rfl, e1, hv, q v g0 g1 g2 hr ?_⟩)
      left
      have e3 := congrArg List.length eg
      simp at e3
      exact List.eq_nil_of_length_eq_zero (by omega)
    · rename_i s
      split at hg
      · rename_i hs
        obtain ⟨e1, _⟩ := h1
        subst e1
        cases hc : atI s.cps.toList i with
        | none => rw [hc] at hg; cases hg
        | some c =>
          rw [hc] at hg
          cases hg
          exact .inr (.inr ⟨s, i, c, rfl, rfl, cap_le hs, hc, q _ [] [] [] ⟨rfl, rfl⟩ (.inl rfl)⟩)
      · cases hg
    · cases hg
  · cases hg
theorem vop_ix : VOp2 K cA (rIx K) gIx := by
  refine ⟨@fun d1 d2 d v1 v2 H Z f1 f2 Q h1 h2 w hg q => ?_⟩
  unfold gIx at hg
  split at hg
  · rename_i d' hd
    split at hg
    · rename_i hf
      cases hg
      refine ix_rep h1 h2 hd fun v f0 f f3 hr _ => ?_
      have e := repD_isF d hr hf
      subst e
      exact q v H Z [] hr (wf0 w) (Fr.refl.less fun _ m => nomatch m)
    · cases hg
  · cases hg
end
section
variable {X : Cx} {cA : Str → Addr} {W : WX} {fa fb : Env → Out D} {a b : Expr} {pos : Pos}
theorem de_ix (ha : DE X cA W fa a) (hb : DE X cA W fb b) (hs : PlainIx b := by exact fun _ _ => rfl) : DE X cA W (dOp2 gIx fa fb) (.Subscript a b pos) := PE.imp (pe_ix ix_seq ha hb hs) (te_op2 vop_ix)
/-- x[i], x a slot that may be owned -/
def dIxS (i : Nat) (fb : Env → Out D) : Env → Out D := fun ρ => match fb ρ with
  | .ok k ρ1 => (match ρ1[i]? with
    | some (some x) => (match gIxO x k with
      | some d => .ok d ρ1
      | none => .st)
    | _ => .st)
  | .ex e ρ1 => .ex e ρ1
  | .st => .st
theorem slot_now {K : PySem.W.Frag} {H : Hp} {Z : ZS} {ρ ρ1 : Env} {σ : L2.St} {L : FP} {i : Nat} {v : V} {d : D} (r : RelL K cA H Z ρ1 σ L) (h : ρ1[i]? = some (some d)) (hv : σ[i]? = some (some v)) : ∃ f0 f1 f2, RepD K cA H Z d v f1 ∧ L = f0 ++ f1 ++ f2 := by
  obtain ⟨v', f0, f1, f2, hv', hr, ef, _, _⟩ := relL_at r h
  rw [hv] at hv'
  cases hv'
  exact ⟨f0, f1, f2, hr, ef⟩
theorem dp_ixS {i : Nat} (ha : PE X a (tVar i)) (hb : DE X cA W fb b) (hi : ∀ ρ ρ1 : Env, True := by intros; trivial) (hs : PlainIx b := by exact fun _ _ => rfl) : DP X cA W (fun ρ => match ρ[i]? with | some (some _) => dIxS i fb ρ | _ => .st) (.Subscript a b pos) :=
  dp_of (pe_ix ix_seq ha hb hs) fun σ H Q Z L ρ r w p => by
    split at p
    · rename_i d0 hd0
      obtain ⟨v, _, _, _, hv, _, _, _, _⟩ := relL_at r hd0
      refine ⟨v, hv, Z, L, ρ, r, w, ?_⟩
      unfold dIxS at p
      cases hb' : fb ρ with
      | st => rw [hb'] at p; exact p
      | ex e ρ' => rw [hb'] at p; exact p
      | ok k ρ1 =>
        rw [hb'] at p
        intro y H1 Z1 L1 f1 r1 w1 h1 F1
        dsimp only at p
        split at p
        · rename_i x hx
          split at p
          · rename_i d hg
            obtain ⟨g0, g1, g2, hr, eL⟩ := slot_now (ρ := ρ) r1 hx hv
            refine ix_rep hr h1 hg fun u f0 f f3 hu _ => ?_
            exact p u H1 Z1 L1 f r1 (w1.less (List.sublist_append_right _ _)) hu (F1.less fun x m => by simp [m])
          · exact p.elim
        · exact p.elim
    · exact p.elim
/-- .. its item frozen: a value -/
def dIxV (i : Nat) (fb : Env → Out D) : Env → Out D := fun ρ => match ρ[i]? with
  | some (some _) => (match dIxS i fb ρ with
    | .ok d ρ1 => if isF d = true then .ok d ρ1 else .st
    | .ex e ρ1 => .ex e ρ1
    | .st => .st)
  | _ => .st
/-- a value looked at that is frozen is a value -/
theorem de_dp {f : Env → Out D} {e : Expr} (h : DP X cA W f e) : DE X cA W (fun ρ => match f ρ with | .ok d ρ1 => if isF d = true then .ok d ρ1 else .st | .ex e ρ1 => .ex e ρ1 | .st => .st) e := de_of h fun σ H Q Z L ρ r w p => ⟨Z, L, ρ, r, w, by
  cases hf : f ρ with
  | st => rw [hf] at p; exact p
  | ex e ρ' => rw [hf] at p; exact p
  | ok d ρ1 =>
    rw [hf] at p
    dsimp only at p
    split at p
    · rename_i hd
      intro v H' Z' L' fp r' w' h' f'
      have e := repD_isF d h' hd
      subst e
      exact p v H' Z' L' [] r' w' h' f'
    · exact p.elim⟩
theorem de_ixS {i : Nat} (ha : PE X a (tVar i)) (hb : DE X cA W fb b) (hs : PlainIx b := by exact fun _ _ => rfl) : DE X cA W (dIxV i fb) (.Subscript a b pos) := by
  refine PE.imp (de_dp (dp_ixS ha hb (hs := hs))) fun σ H Q ⟨Z, L, ρ, r, w, p⟩ => ⟨Z, L, ρ, r, w, ?_⟩
  unfold dIxV at p
  dsimp only
  split at p
  · exact p
  · exact p.elim
/-- (what is looked at)[a quiet index] -/
def dIxP (fa : Env → Out D) (g : Env → Option At) : Env → Out D := fun ρ => match fa ρ with
  | .ok x ρ1 => (match g ρ1 with
    | some k => (match gIxO x (.a k) with
      | some d => .ok d ρ1
      | none => .st)
    | none => .st)
  | .ex e ρ1 => .ex e ρ1
  | .st => .st
theorem dp_ixP {g : Env → Option At} (ha : DP X cA W fa a) (hb : DQ X cA g b) (hs : PlainIx b := by exact fun _ _ => rfl) : DP X cA W (dIxP fa g) (.Subscript a b pos) :=
  dp_of (pe_ix ix_seq ha hb hs) fun σ H Q Z L ρ r w p => by
    refine ⟨Z, L, ρ, r, w, ?_⟩
    unfold dIxP at p
    cases ha' : fa ρ with
    | st => rw [ha'] at p; exact p
    | ex e ρ' => rw [ha'] at p; exact p
    | ok x ρ1 =>
      rw [ha'] at p
      intro v H1 Z1 L1 f1 r1 w1 h1 F1
      dsimp only at p
      split at p
      · rename_i k hk
        split at p
        · rename_i d hg
          refine ⟨Z1, L1, ρ1, r1, w1, k, hk, fun H2 k2 => ?_⟩
          have w2 : Wf H2 Z1 L1 := ⟨w1.nd, w1.dj, fun a z => let ⟨o, e⟩ := w1.tz a z; ⟨o, k2 a o e⟩⟩
          refine ix_rep (y := .a k) (f2 := []) (repD_mono x (fun _ z => z) (fun a o _ e => k2 a o e) h1) ⟨rfl, rfl⟩ hg fun u f0 f f3 hu _ => ?_
          refine p u H2 Z1 L1 f (relL_mono (fun _ z => z) (fun a o _ e => k2 a o e) r1) w2 hu (F1.trans ⟨fun a o e _ => k2 a o e, fun _ z => z, fun _ z => .inl z, fun _ m => .inl m⟩)
        · exact p.elim
      · exact p.elim
end

/-! ### slices -/
def cutD (xs : List D) (lo hi : Option Int) : List D := (xs.drop (HT.sIx xs.length 0 lo)).take (HT.sIx xs.length xs.length hi - HT.sIx xs.length 0 lo)
def gSl (x : D) (lo hi : Option Int) : Option D := match x with
  | .n .lst _ xs => if isFL xs = true then some (.lst true (cutD xs lo hi)) else none
  | .n .scr _ xs => if isFL xs = true then some (.lst true (cutD xs lo hi)) else none
  | .n .tup _ xs => some (.tup (cutD xs lo hi))
  | .a (.str s) => if s.length ≤ cap then some (.str (cutS s lo hi)) else none
  | _ => none
section
variable {K : PySem.W.Frag} {cA : Str → Addr} {H : Hp} {Z : ZS}
theorem repL_drop {xs : List D} {vs : List V} (h : RepL K cA H Z xs vs []) : ∀ n : Nat, RepL K cA H Z (xs.drop n) (vs.drop n) [] := by
  induction xs generalizing vs with
  | nil => intro n; rw [h.1]; simp only [List.drop_nil]; exact ⟨rfl, rfl⟩
  | cons x xs ih =>
    obtain ⟨v, vs', f1, f2, ev, h1, h2, ef⟩ := h
    subst ev
    have e := List.append_eq_nil_iff.mp ef.symm
    rw [e.1] at h1
    rw [e.2] at h2
    intro n
    cases n with
    | zero => exact ⟨v, vs', [], [], rfl, h1, h2, rfl⟩
    | succ n => exact ih h2 n
theorem repL_take {xs : List D} {vs : List V} (h : RepL K cA H Z xs vs []) : ∀ n : Nat, RepL K cA H Z (xs.take n) (vs.take n) [] := by
  induction xs generalizing vs with
  | nil => intro n; rw [h.1]; simp only [List.take_nil]; exact ⟨rfl, rfl⟩
  | cons x xs ih =>
    obtain ⟨v, vs', f1, f2, ev, h1, h2, ef⟩ := h
    subst ev
    have e := List.append_eq_nil_iff.mp ef.symm
    rw [e.1] at h1
    rw [e.2] at h2
    intro n
    cases n with
    | zero => exact ⟨rfl, rfl⟩
    | succ n => exact ⟨v, vs'.take n, [], [], rfl, h1, ih h2 n, rfl⟩
theorem repL_cut {xs : List D} {vs : List V} (h : RepL K cA H Z xs vs []) (lo hi : Option Int) : RepL K cA H Z (cutD xs lo hi) (cutV vs lo hi) [] := by
  unfold cutD cutV
  rw [repL_len h]
  exact repL_take (repL_drop h _) _
abbrev rSlDD (K : PySem.W.Frag) : V → Option Int → Option Int → Hp → VK → Prop := fun x lo hi H Q => rSlL K x lo hi H Q ∨ rSlA K x lo hi H Q ∨ rSlS x lo hi H Q
theorem sl_rep {x d : D} {v1 : V} {f1 : FP} {lo hi : Option Int} {Q : VK} (h1 : RepD K cA H Z x v1 f1) (w : Wf H Z []) (hg : gSl x lo hi = some d) (q : ∀ v H' Z' fp, RepD K cA H' Z' d v fp → Wf H' Z' fp → Fr H Z [] H' Z' fp → Q v H') : rSlDD K v1 lo hi H Q := by
  unfold gSl at hg
  split at hg
  · rename_i o xs
    split at hg
    · rename_i hf
      cases hg
      obtain ⟨p, vs, g, rfl, e1, r1, _⟩ := rep_lst h1
      refine .inl ⟨p, vs, rfl, SqL.of e1, fun p0 hp => ?_⟩
      obtain ⟨a, b, c⟩ := new_lst w (repL_cut (repL_fl r1 hf) lo hi) hp
      exact q _ _ _ _ a b c
    · cases hg
  · rename_i o xs
    split at hg
    · rename_i hf
      cases hg
      obtain ⟨p, vs, rfl, e1, r1, _⟩ := rep_scr h1
      refine .inl ⟨p, vs, rfl, e1, fun p0 hp => ?_⟩
      obtain ⟨a, b, c⟩ := new_lst w (repL_cut r1 lo hi) hp
      exact q _ _ _ _ a b c
    · cases hg
  · rename_i o xs
    cases hg
    obtain ⟨p, vs, rfl, e1, r1, _, _, c1⟩ := rep_tup h1
    have rc := repL_cut r1 lo hi
    refine .inr (.inl ⟨p, vs, rfl, e1, fun e => ?_, fun _ p0 hp => ?_⟩)
    · have hv : cutV vs lo hi = vs := by
        unfold cutV
        rw [e.1, e.2, List.drop_zero, Nat.sub_zero, List.take_length]
      rw [hv] at rc
      exact q _ H Z [] ⟨p, vs, [], rfl, rc, ⟨rfl, c1⟩, rfl, fun _ => rfl⟩ w Fr.refl
    · obtain ⟨a, b, c⟩ := new_tup w rc hp
      exact q _ _ _ _ a b c
  · rename_i s
    split at hg
    · rename_i hs
      cases hg
      obtain ⟨e1, _⟩ := h1
      subst e1
      exact .inr (.inr ⟨s, rfl, cap_le hs, q _ H Z [] ⟨rfl, rfl⟩ w Fr.refl⟩)
    · cases hg
  · cases hg
end
/-- a bound: none, or an int -/
def dPart : Option (Env → Out D) → Env → Out (Option Int)
  | none, ρ => .ok none ρ
  | some f, ρ => match f ρ with
    | .ok (.a (.int i)) ρ1 => .ok (some i) ρ1
    | .ok _ _ => .st
    | .ex e ρ1 => .ex e ρ1
    | .st => .st
def dSl (fa : Env → Out D) (lo hi : Option (Env → Out D)) : Env → Out D := fun ρ => match fa ρ with
  | .ok x ρ1 => (match dPart lo ρ1 with
    | .ok l ρ2 => (match dPart hi ρ2 with
      | .ok u ρ3 => (match gSl x l u with
        | some d => .ok d ρ3
        | none => .st)
      | .ex e ρ3 => .ex e ρ3
      | .st => .st)
    | .ex e ρ2 => .ex e ρ2
    | .st => .st)
  | .ex e ρ1 => .ex e ρ1
  | .st => .st
section
variable {X : Cx} {cA : Str → Addr} {W : WX} {fa fb : Env → Out D} {a b : Expr} {pos : Pos}
def PostO (K : PySem.W.Frag) (cA : Str → Addr) (W : WX) (σ : L2.St) (H : Hp) (Z : ZS) (L : FP) (Q : Option Int → Hp → Prop) : Out (Option Int) → Prop
  | .ok d ρ' => ∀ H' Z' L', RelL K cA H' Z' ρ' σ L' → Wf H' Z' L' → Fr H Z L H' Z' L' → Q d H'
  | .ex e ρ' => ∀ cls d H' Z' L', RelL K cA H' Z' ρ' σ L' → Wf H' Z' L' → ExR cA H' Z' e cls d → Fr H Z L H' Z' L' → W cls d σ H'
  | .st => False
def TOof (K : PySem.W.Frag) (cA : Str → Addr) (W : WX) (f : Env → Out (Option Int)) : TO := fun σ H Q => ∃ Z L ρ, RelL K cA H Z ρ σ L ∧ Wf H Z L ∧ PostO K cA W σ H Z L Q (f ρ)
def DO (X : Cx) (cA : Str → Addr) (W : WX) (f : Option (Env → Out D)) (e : Option Expr) : Prop := ∃ t, PO X e t ∧ ∀ σ H Q, TOof X.K cA W (dPart f) σ H Q → t σ H Q
theorem do_none : DO X cA W none none := ⟨_, po_none, fun σ H Q ⟨Z, L, ρ, r, w, p⟩ => p H Z L r w Fr.refl⟩
theorem do_some (h : DE X cA W fa a) : DO X cA W (some fa) (some a) := ⟨_, po_some h, fun σ H Q ⟨Z, L, ρ, r, w, p⟩ => by
  refine ⟨Z, L, ρ, r, w, ?_⟩
  unfold dPart at p
  dsimp only at p
  cases ha : fa ρ with
  | st => rw [ha] at p; exact p.elim
  | ex e ρ' => rw [ha] at p; exact p
  | ok x ρ1 =>
    rw [ha] at p
    intro v H1 Z1 L1 f1 r1 w1 h1 F1
    cases x with
    | n k o xs => exact p.elim
    | a x =>
      cases x with
      | int i =>
        obtain ⟨e1, e2⟩ := h1
        subst e1 e2
        exact ⟨i, rfl, p H1 Z1 L1 r1 w1 F1⟩
      | non => exact p.elim
      | bl b => exact p.elim
      | str s => exact p.elim⟩
theorem de_slice {lo hi : Option (Env → Out D)} {elo ehi : Option Expr} {p2 : Pos} (ha : DE X cA W fa a) (hl : DO X cA W lo elo) (hu : DO X cA W hi ehi) : DE X cA W (dSl fa lo hi) (.Subscript a (.Slice elo ehi none p2) pos) := by
  obtain ⟨tl, pl, il⟩ := hl
  obtain ⟨th, pu, iu⟩ := hu
  refine de_of (pe_slice (sl_list.or (sl_tupA.or sl_str)) ha pl pu) fun σ H Q Z L ρ r w p => ?_
  refine ⟨Z, L, ρ, r, w, ?_⟩
  unfold dSl at p
  cases ha' : fa ρ with
  | st => rw [ha'] at p; exact p
  | ex e ρ' => rw [ha'] at p; exact p
  | ok x ρ1 =>
    rw [ha'] at p
    intro v H1 Z1 L1 f1 r1 w1 h1 F1
    dsimp only at p
    refine il σ H1 _ ⟨Z1, L1, ρ1, r1, w1.less (List.sublist_append_right _ _), ?_⟩
    cases hl' : dPart lo ρ1 with
    | st => rw [hl'] at p; exact p
    | ex e ρ' => rw [hl'] at p; exact exw p (F1.less fun x m => by simp [m])
    | ok l ρ2 =>
      rw [hl'] at p
      intro H2 Z2 L2 r2 w2 F2
      dsimp only at p
      have w12 := w1.wait (repD_trk x h1) F2 w2
      have F12 := Fr.wait w1 F1 F2
      have h2 := repD_wait w1 h1 F2
      refine iu σ H2 _ ⟨Z2, L2, ρ2, r2, w2, ?_⟩
      cases hu' : dPart hi ρ2 with
      | st => rw [hu'] at p; exact p
      | ex e ρ' => rw [hu'] at p; exact exw p (F12.less fun x m => by simp [m])
      | ok u ρ3 =>
        rw [hu'] at p
        intro H3 Z3 L3 r3 w3 F3
        dsimp only at p
        have w13 := w12.wait (repD_trk x h2) F3 w3
        have F13 := Fr.wait w12 F12 F3
        have h3 := repD_wait w12 h2 F3
        cases hg : gSl x l u with
        | none => rw [hg] at p; exact p.elim
        | some d =>
          rw [hg] at p
          refine sl_rep h3 (wf0 w3) hg fun v H4 Z4 fp h4 w4 F4 => ?_
          obtain ⟨r5, w5, F5⟩ := hand0 w3 r3 F4 w4
          exact p v H4 Z4 L3 fp r5 w5 h4 ((F13.less fun x m => by simp [m]).trans F5)
/-- xs[::-1] -/
def gRev : D → Option D
  | .n .lst _ xs => if isFL xs = true then some (.lst true xs.reverse) else none
  | _ => none
theorem repL_rev {K : PySem.W.Frag} {H : Hp} {Z : ZS} : ∀ {xs : List D} {vs : List V}, RepL K cA H Z xs vs [] → RepL K cA H Z xs.reverse vs.reverse []
  | [], vs, h => by rw [h.1]; exact ⟨rfl, rfl⟩
  | x :: xs, vs, h => by
    obtain ⟨v, vs', f1, f2, ev, h1, h2, ef⟩ := h
    have e := List.append_eq_nil_iff.mp ef.symm
    rw [e.1] at h1
    rw [e.2] at h2
    subst ev
    rw [List.reverse_cons, List.reverse_cons]
    exact repL_append (repL_rev h2) (repL_one h1)
theorem de_rev {k : Nat} {p1 p2 p3 pos : Pos} (ha : DE X cA W fa a) : DE X cA W (dU gRev fa) (.Subscript a (.Slice none none (some (.UnaryOp .USub (.Constant (.int 1) k p1) p2)) p3) pos) :=
  PE.imp (pe_revL (dp_de ha)) (te_un (r := fun x H1 Q => ∃ a xs, x = .ref a ∧ SqL X.K H1 a xs ∧ ∀ p, H1 p = none → Q (.ref p) (upd H1 p (.lst xs.reverse))) (g := gRev) (by
    refine ⟨@fun d1 d v1 H Z f1 Q h1 w hg q => ?_⟩
    unfold gRev at hg
    split at hg
    · rename_i o xs
      split at hg
      · rename_i hf
        cases hg
        obtain ⟨p, vs, g, rfl, e1, r1, _⟩ := rep_lst h1
        refine ⟨p, vs, rfl, SqL.of e1, fun p0 hp => ?_⟩
        obtain ⟨a, b, c⟩ := new_lst w (repL_rev (repL_fl r1 hf)) hp
        exact q _ _ _ _ a b c
      · cases hg
    · cases hg))
end
end DL
namespace DL
open PySem L2

/-! ### calls -/
/-- the lent argument behind a call -/
def RepIo (K : PySem.W.Frag) (cA : Str → Addr) (H : Hp) (Z : ZS) : Option Nat → Option D → List V → FP → Prop
  | some k, some d, vs, g => ∃ v, vs[k]? = some v ∧ RepD K cA H Z d v g
  | _, _, _, g => g = []
def PostF (K : PySem.W.Frag) (cA : Str → Addr) (kio : Option Nat) (vs : List V) (H : Hp) (Z : ZS) (L : FP) (Q : VK) (E : XK) : FR → Prop
  | .rt d io => ∀ v H' Z' fp g, RepIo K cA H' Z' kio io vs g → RepD K cA H' Z' d v fp → Wf H' Z' (fp ++ g) → Fr H Z L H' Z' (fp ++ g) → Q v H'
  | .ex e io => ∀ cls d H' Z' g, RepIo K cA H' Z' kio io vs g → Wf H' Z' g → ExR cA H' Z' e cls d → Fr H Z L H' Z' g → E cls d H'
  | .st => False
/-- the promise of a def: its function on data -/
def spF (K : PySem.W.Frag) (cA : Str → Addr) (n : Nat) (kio : Option Nat) (F : List D → FR) : Sp := fun vs H Q E => vs.length = n ∧ ∃ ds Z L, RepL K cA H Z ds vs L ∧ Wf H Z L ∧ PostF K cA kio vs H Z L Q E (F ds)
def ioOf (kio : Option Nat) (ρ : Env) : Option D := match kio with
  | some k => (match ρ[k]? with
    | some (some d) => some d
    | _ => none)
  | none => none
/-- a def: n slots, the body -/
def fnD (n : Nat) (kio : Option Nat) (body : Env → Fl) : List D → FR := fun ds => match body (ds.map some ++ List.replicate (n - ds.length) none) with
  | .nx ρ => .rt .non (ioOf kio ρ)
  | .rt d ρ => .rt d (ioOf kio ρ)
  | .ex e ρ => .ex e (ioOf kio ρ)
  | _ => .st
section
variable {K : PySem.W.Frag} {cA : Str → Addr}
theorem relL_nones {H : Hp} {Z : ZS} : ∀ n : Nat, RelL K cA H Z (List.replicate n none) (List.replicate n none) []
  | 0 => ⟨rfl, rfl⟩
  | n + 1 => ⟨none, _, rfl, relL_nones n⟩
theorem relL_start {H : Hp} {Z : ZS} {n : Nat} : ∀ {ds : List D} {vs : List V} {L : FP}, RepL K cA H Z ds vs L → RelL K cA H Z (ds.map some ++ List.replicate n none) (vs.map some ++ List.replicate n none) L
  | [], vs, L, h => by
    rw [h.1, h.2]
    exact relL_nones n
  | d :: ds, vs, L, h => by
    obtain ⟨v, vs', f1, f2, ev, h1, h2, ef⟩ := h
    subst ev
    exact ⟨v, _, f1, f2, rfl, h1, relL_start h2, ef⟩
/-- the lent slot at the end of a body -/
theorem io_end {H : Hp} {Z : ZS} {kio : Option Nat} {ρ : Env} {σ0 σ : L2.St} {L : FP} {vs : List V} {n : Nat} (r : RelL K cA H Z ρ σ L) (pn : Pin kio (vs.map some ++ List.replicate n none) σ) : ∃ g, g.Sublist L ∧ RepIo K cA H Z kio (ioOf kio ρ) vs g := by
  cases kio with
  | none => exact ⟨[], List.nil_sublist _, rfl⟩
  | some k =>
    unfold ioOf
    dsimp only
    cases hk : ρ[k]? with
    | none => exact ⟨[], List.nil_sublist _, rfl⟩
    | some o =>
      cases o with
      | none => exact ⟨[], List.nil_sublist _, rfl⟩
      | some d =>
        obtain ⟨v, f0, f1, f2, hv, hr, ef, _, _⟩ := relL_at r hk
        have hp := pn k rfl
        rw [hv] at hp
        refine ⟨f1, ?_, v, ?_, hr⟩
        · rw [ef]
          exact (List.sublist_append_right f0 f1).trans (List.sublist_append_left _ _)
        · by_cases hl : k < vs.length
          · rw [List.getElem?_append_left (by simpa using hl), List.getElem?_map] at hp
            cases hq : vs[k]? with
            | none => rw [hq] at hp; cases hp
            | some u => rw [hq] at hp; cases hp; rfl
          · rw [List.getElem?_append_right (by simpa using hl), List.getElem?_replicate] at hp
            split at hp <;> cases hp
theorem wf_sub2 {H : Hp} {Z : ZS} {fp L g : FP} (w : Wf H Z (fp ++ L)) (h : g.Sublist L) : Wf H Z (fp ++ g) := w.less ((List.Sublist.refl fp).append h)
theorem fr_sub2 {H H' : Hp} {Z Z' : ZS} {L0 fp L g : FP} (f : Fr H Z L0 H' Z' (fp ++ L)) (h : g.Sublist L) : Fr H Z L0 H' Z' (fp ++ g) := f.less fun x m => by
  rcases List.mem_append.mp m with m | m
  · simp [m]
  · simp [h.subset m]
end
section
variable {P : Program} {w : World} {K : PySem.W.Frag} {cA : Str → Addr} {mg : Str → Option Value} {base : Heap}
/-- THE RULE for a def -/
theorem fn_ok {x qual : Str} {st : Stmt} {f : Addr} {fd : FuncData} {N ps : List Str} {k : Nat} {kio : Option Nat} {body : Env → Fl} (F : Fun K x qual st f fd) (S : FnScope N ps (defScope st))
    (hb : ∀ (cdv : Value) (A : Around) (outer : List PySem.Env) (s : Shared) (H : Hp) (E : XK), Room k (A.deeper (PyProof.Rows.envOfC qual (defScope st) s.heap.objs.size f cdv)) →
      DSs (cxOf (L2.CX P w) P w K mg base N qual (defScope st) f cdv A outer s H E) cA (fun cls d _ H' => E cls d H') kio body (defBody st)) :
    FnOk P w K mg base (L2.CX P w) (k + 1) f fd ps (spF K cA ps.length kio (fnD N.length kio body)) := by
  refine F.okX S (fun vs H Q E h => h.1) fun cdv A outer s H vs Q E hr h => ?_
  obtain ⟨hl, ds, Z, L, r, wf, p⟩ := h
  refine ⟨_, hb cdv A outer s H E hr, ?_⟩
  have e : N.length - ds.length = N.length - vs.length := by rw [repL_len r]
  refine ⟨Z, L, ds.map some ++ List.replicate (N.length - vs.length) none, relL_start r, wf, ?_⟩
  unfold fnD at p
  rw [e] at p
  cases hbo : body (ds.map some ++ List.replicate (N.length - vs.length) none) with
  | st => rw [hbo] at p; exact p
  | bk ρ => rw [hbo] at p; exact p.elim
  | ct ρ => rw [hbo] at p; exact p.elim
  | nx ρ =>
    rw [hbo] at p
    intro σ' H' Z' L' r' w' F' pn
    obtain ⟨g, hg, ri⟩ := io_end (σ0 := σ') r' pn
    exact p _ H' Z' [] g ri ⟨rfl, rfl⟩ (w'.less hg) (F'.less fun x m => hg.subset m)
  | rt d ρ =>
    rw [hbo] at p
    intro v σ' H' Z' L' fp r' w' h' F' pn
    obtain ⟨g, hg, ri⟩ := io_end (σ0 := σ') r' pn
    exact p v H' Z' fp g ri h' (wf_sub2 w' hg) (fr_sub2 F' hg)
  | ex e ρ =>
    rw [hbo] at p
    intro cls d σ' H' Z' L' r' w' x' F' pn
    obtain ⟨g, hg, ri⟩ := io_end (σ0 := σ') r' pn
    exact p cls d H' Z' g ri (w'.less hg) x' (F'.less fun x m => hg.subset m)
end
/-- a call, all arguments frozen -/
def dCall (n : Nat) (F : List D → FR) (g : Env → Out (List Ag)) : Env → Out D := fun ρ => match g ρ with
  | .ok ds ρ1 => (match agL ds with
    | some xs => if xs.length = n then (match F (frzL xs) with
      | .rt d _ => .ok d ρ1
      | .ex e _ => .ex e ρ1
      | .st => .st) else .st
    | none => .st)
  | .ex e ρ1 => .ex e ρ1
  | .st => .st
/-- a call, one slot lent -/
def agL1 : List Ag → Option (List D × Nat × List D)
  | [] => none
  | .d x :: xs => (agL1 xs).map fun p => (x :: p.1, p.2)
  | .s i :: xs => (agL xs).map fun p => ([], i, p)
def dCallL (n : Nat) (kio : Option Nat) (F : List D → FR) (g : Env → Out (List Ag)) : Env → Out D := fun ρ => match g ρ with
  | .ok ds ρ1 => (match agL1 ds with
    | some (xs, i, ys) => (match ρ1[i]? with
      | some (some d0) => if kio = some xs.length ∧ xs.length + (ys.length + 1) = n then (match F (frzL xs ++ (d0 :: frzL ys)) with
        | .rt d (some d1) => .ok d (ρ1.set i (some d1))
        | .ex e (some d1) => .ex e (ρ1.set i (some d1))
        | _ => .st) else .st
      | _ => .st)
    | none => .st)
  | .ex e ρ1 => .ex e ρ1
  | .st => .st
/-- f(): no argument -/
def dCall0 (F : List D → FR) : Env → Out D := fun ρ => match F [] with
  | .rt d _ => .ok d ρ
  | .ex e _ => .ex e ρ
  | .st => .st
section
variable {X : Cx} {cA : Str → Addr} {W : WX} {g : Env → Out (List Ag)}
/-- what a call asks and gives, the arguments in hand -/
theorem call_in {K : PySem.W.Frag} {n : Nat} {kio : Option Nat} {F : List D → FR} {σ : L2.St} {H H1 : Hp} {Z Z1 : ZS} {L L1 f1 : FP} {ρ1 : Env} {xs : List D} {vs : List V} {Q : VK} (hn : xs.length = n)
    (r1 : RelL K cA H1 Z1 ρ1 σ L1) (w1 : Wf H1 Z1 (f1 ++ L1)) (hL : RepL K cA H1 Z1 xs vs f1) (F1 : Fr H Z L H1 Z1 (f1 ++ L1))
    (p : PostE K cA W σ H Z L Q (match F (frzL xs) with | .rt d _ => .ok d ρ1 | .ex e _ => .ex e ρ1 | .st => .st)) : spF K cA n kio F vs H1 Q (WE W σ) := by
  have wz := w1.freeze (repL_trk xs hL)
  have hf := repL_zu hL
  refine ⟨by rw [repL_len hL]; exact hn, frzL xs, ZU Z1 f1, [], hf, wf0 wz, ?_⟩
  have F1z := F1.freeze
  cases hF : F (frzL xs) with
  | st => rw [hF] at p; exact p
  | rt d io =>
    rw [hF] at p
    intro v H2 Z2 fp g' ri h2 w2 F2
    have F2' : Fr H1 (ZU Z1 f1) [] H2 Z2 fp := F2.less fun x m => by simp [m]
    obtain ⟨r3, w3, F3⟩ := hand0 wz (relL_zu r1) F2' (w2.less (List.sublist_append_left _ _))
    exact p v H2 Z2 L1 fp r3 w3 h2 (F1z.trans F3)
  | ex e io =>
    rw [hF] at p
    intro cls d H2 Z2 g' ri w2 x2 F2
    have F2' : Fr H1 (ZU Z1 f1) [] H2 Z2 [] := F2.less fun x m => nomatch m
    obtain ⟨r3, w3, F3⟩ := hand0 wz (relL_zu r1) F2' (wf0 w2)
    exact p cls d H2 Z2 L1 r3 w3 x2 (F1z.trans F3)
theorem te_call {K : PySem.W.Frag} {n : Nat} {kio : Option Nat} {F : List D → FR} : ∀ σ H Q, TEof K cA W (dCall n F g) σ H Q → tCallS (spF K cA n kio F) (WE W) (TAof K cA W g) σ H Q := by
  rintro σ H Q ⟨Z, L, ρ, r, w, p⟩
  refine ⟨Z, L, ρ, r, w, ?_⟩
  unfold dCall at p
  cases ha : g ρ with
  | st => rw [ha] at p; exact p
  | ex e ρ' => rw [ha] at p; exact p
  | ok ds ρ1 =>
    rw [ha] at p
    intro vs H1 Z1 L1 f1 r1 w1 h1 F1
    dsimp only at p
    split at p
    · rename_i xs hx
      split at p
      · rename_i hn
        exact call_in hn r1 w1 (repA_L hx h1) F1 p
      · exact p.elim
    · exact p.elim
theorem te_callL {K : PySem.W.Frag} {n : Nat} {kio : Option Nat} {F : List D → FR} : ∀ σ H Q, TEof K cA W (dCallL n kio F g) σ H Q → tCallS (spF K cA n kio F) (WE W) (TAof K cA W g) σ H Q := by
  rintro σ H Q ⟨Z, L, ρ, r, w, p⟩
  refine ⟨Z, L, ρ, r, w, ?_⟩
  unfold dCallL at p
  cases ha : g ρ with
  | st => rw [ha] at p; exact p
  | ex e ρ' => rw [ha] at p; exact p
  | ok ds ρ1 =>
    rw [ha] at p
    intro vs H1 Z1 L1 f1 r1 w1 h1 F1
    dsimp only at p
    split at p
    · rename_i xs i ys hx
      split at p
      · rename_i d0 hd0
        split at p
        · rename_i hk
          obtain ⟨hk, hn⟩ := hk
          -- the arguments apart
          have key : ∀ {ds : List Ag} {xs ys : List D} {vs : List V} {fp : FP}, agL1 ds = some (xs, i, ys) → RepA K cA H1 Z1 σ ds vs fp → ∃ us v ws g1 g2, vs = us ++ v :: ws ∧ RepL K cA H1 Z1 xs us g1 ∧ RepL K cA H1 Z1 ys ws g2 ∧ σ[i]? = some (some v) ∧ fp = g1 ++ g2 := by
            intro ds
            induction ds with
            | nil => intro xs ys vs fp e; simp [agL1] at e
            | cons a ds ih =>
              intro xs ys vs fp e h
              cases a with
              | d x =>
                obtain ⟨v, vs', f1, f2, ev, h1, h2, ef⟩ := h
                unfold agL1 at e
                cases hd : agL1 ds with
                | none => rw [hd] at e; cases e
                | some q =>
                  obtain ⟨q1, q2, q3⟩ := q
                  rw [hd] at e
                  cases e
                  obtain ⟨us, v', ws, g1, g2, e1, r1, r2, hv, e2⟩ := ih hd h2
                  exact ⟨v :: us, v', ws, f1 ++ g1, g2, by rw [ev, e1]; rfl, ⟨v, us, f1, g1, rfl, h1, r1, rfl⟩, r2, hv, by rw [ef, e2]; simp⟩
              | s j =>
                obtain ⟨v, vs', ev, hv, h2⟩ := h
                unfold agL1 at e
                cases hd : agL ds with
                | none => rw [hd] at e; cases e
                | some q =>
                  rw [hd] at e
                  cases e
                  exact ⟨[], v, vs', [], fp, by rw [ev]; rfl, ⟨rfl, rfl⟩, repA_L hd h2, hv, rfl⟩
          obtain ⟨us, v, ws, g1, g2, ev, hx1, hx2, hv, ef⟩ := key hx h1
          subst ev ef
          have tr : ∀ a ∈ g1 ++ g2, ∃ o, H1 a = some o := fun a m => (List.mem_append.mp m).elim (repL_trk _ hx1 a) (repL_trk _ hx2 a)
          have wz := w1.freeze tr
          have r1z : RelL K cA H1 (ZU Z1 (g1 ++ g2)) ρ1 σ L1 := relL_zu r1
          obtain ⟨v', f0, fd, f2, hv', hr, eL, put, cut⟩ := relL_at r1z hd0
          rw [hv] at hv'
          cases hv'
          have m1 : RepL K cA H1 (ZU Z1 (g1 ++ g2)) (frzL xs) us [] := repL_frz xs zu_sub (fun a m => .inr (by simp [m])) hx1
          have m2 : RepL K cA H1 (ZU Z1 (g1 ++ g2)) (frzL ys) ws [] := repL_frz ys zu_sub (fun a m => .inr (by simp [m])) hx2
          have hall : RepL K cA H1 (ZU Z1 (g1 ++ g2)) (frzL xs ++ (d0 :: frzL ys)) (us ++ v :: ws) fd := by
            have := repL_append m1 (ys := d0 :: frzL ys) (ws := v :: ws) (g := fd) ⟨v, ws, fd, [], rfl, hr, m2, by simp⟩
            simpa using this
          have lu : us.length = xs.length := repL_len hx1
          have lw : ws.length = ys.length := repL_len hx2
          -- the lent footprint is handed over, the rest waits
          have wzp : Wf H1 (ZU Z1 (g1 ++ g2)) ((f0 ++ f2) ++ fd) := by
            rw [eL] at wz
            refine wz.perm ?_
            rw [List.append_assoc, List.append_assoc]
            exact List.Perm.append_left _ List.perm_append_comm
          have cut1 := cut (H' := H1) (Z' := ZU Z1 (g1 ++ g2)) (fun _ z => z) (fun _ _ _ e => e)
          refine ⟨by simp [lu, lw]; omega, _, _, fd, hall, wzp.less (List.sublist_append_right _ _), ?_⟩
          have F1z : Fr H Z L H1 (ZU Z1 (g1 ++ g2)) L1 := F1.freeze
          have subL : ∀ x ∈ (f0 ++ f2) ++ fd, x ∈ L1 := fun x m => by rw [eL]; simp at m ⊢; rcases m with m | m | m <;> simp [m]
          have back : ∀ {H2 Z2 d1 M fp0} {g' : FP}, RepIo K cA H2 Z2 kio (some d1) (us ++ v :: ws) g' → Wf H2 Z2 (fp0 ++ g') → Fr H1 (ZU Z1 (g1 ++ g2)) fd H2 Z2 (fp0 ++ g') → M = f0 ++ g' ++ f2 →
              RelL K cA H2 Z2 (ρ1.set i (some d1)) σ M ∧ Wf H2 Z2 (fp0 ++ M) ∧ Fr H Z L H2 Z2 (fp0 ++ M) := by
            intro H2 Z2 d1 M fp0 g' ri w2 F2 eM
            subst eM hk
            obtain ⟨v2, hv2, hd1⟩ := ri
            rw [List.getElem?_append_right (by omega), lu, Nat.sub_self] at hv2
            cases hv2
            have w3 := wzp.wait (relL_trk cut1) F2 w2
            have F3 := ((F1z.less subL).wait wzp F2)
            have nd := List.nodup_append.mp wzp.nd
            have hset : σ.set i (some v) = σ := by
              apply List.ext_getElem?
              intro j
              by_cases hj : i = j
              · subst hj
                rw [hv]
                have hl : i < σ.length := (List.getElem?_eq_some_iff.mp hv).1
                rw [List.getElem?_set_self hl]
              · rw [List.getElem?_set_ne hj]
            have pr := put (H' := H2) (Z' := Z2) (d' := d1) (v' := v) (g := g') F2.zm (fun a o m e => F2.keep a o e fun q => by
              rcases m with m | m | m
              · exact (wzp.dj a (by simp [q])) m
              · exact nd.2.2 a (by simp [m]) a q rfl
              · exact nd.2.2 a (by simp [m]) a q rfl) hd1
            rw [hset] at pr
            have pm : ((f0 ++ f2) ++ (fp0 ++ g')).Perm (fp0 ++ (f0 ++ g' ++ f2)) := by
              refine (List.perm_append_comm_assoc (f0 ++ f2) fp0 g').trans (List.Perm.append_left fp0 ?_)
              rw [List.append_assoc, List.append_assoc]
              exact List.Perm.append_left f0 List.perm_append_comm
            exact ⟨pr, w3.perm pm, F3.less fun x m => pm.mem_iff.mpr m⟩
          cases hF : F (frzL xs ++ (d0 :: frzL ys)) with
          | st => rw [hF] at p; exact p.elim
          | rt d io =>
            rw [hF] at p
            cases io with
            | none => exact p.elim
            | some d1 =>
              intro v2 H2 Z2 fp g' ri h2 w2 F2
              obtain ⟨b1, b2, b3⟩ := back ri w2 F2 rfl
              exact p v2 H2 Z2 _ fp b1 b2 h2 b3
          | ex e io =>
            rw [hF] at p
            cases io with
            | none => exact p.elim
            | some d1 =>
              intro cls d H2 Z2 g' ri w2 x2 F2
              obtain ⟨b1, b2, b3⟩ := back (fp0 := []) ri w2 F2 rfl
              exact p cls d H2 Z2 _ b1 b2 x2 b3
        · exact p.elim
      · exact p.elim
    · exact p.elim
section
variable {k n : Nat} {kio : Option Nat} {f : Addr} {fd : FuncData} {ps : List Str} {F : List D → FR} {x : Str} {p pos : Pos} {e : Expr} {es : List Expr}
/-- f(e, ..) -/
theorem de_call (Fo : FnOk X.prog X.w X.K X.mg X.base (L2.CX X.prog X.w) k f fd ps (spF X.K cA n kio F)) (hr : Room k X.A)
    (hg : Gl X x) (hm : X.mg x = some (.ref f)) (hk : PySem.W.keepIn X.K (.ref f) = true) (hb : Binds X.K fd ps []) (tk : Takes X W) (ha : DA X cA W g (e :: es))
    (hdb : (x == ("__debug__" : Str)) = false := by kernel_rfl) (he : starEach (e :: es) X.env = (false, eval e X.env) :: starEach es X.env := by kernel_rfl) (hpl : (backTo pos (starEach es X.env)).any (·.1) = false := by kernel_rfl) :
    DE X cA W (dCall n F g) (.Call (.Name x p) (e :: es) [] pos) := PE.imp (pe_callS Fo hr hg hm hk hb (passAt tk) ha hdb he hpl) te_call
theorem de_callL (Fo : FnOk X.prog X.w X.K X.mg X.base (L2.CX X.prog X.w) k f fd ps (spF X.K cA n kio F)) (hr : Room k X.A)
    (hg : Gl X x) (hm : X.mg x = some (.ref f)) (hk : PySem.W.keepIn X.K (.ref f) = true) (hb : Binds X.K fd ps []) (tk : Takes X W) (ha : DA X cA W g (e :: es))
    (hdb : (x == ("__debug__" : Str)) = false := by kernel_rfl) (he : starEach (e :: es) X.env = (false, eval e X.env) :: starEach es X.env := by kernel_rfl) (hpl : (backTo pos (starEach es X.env)).any (·.1) = false := by kernel_rfl) :
    DE X cA W (dCallL n kio F g) (.Call (.Name x p) (e :: es) [] pos) := PE.imp (pe_callS Fo hr hg hm hk hb (passAt tk) ha hdb he hpl) te_callL
theorem de_call0 (Fo : FnOk X.prog X.w X.K X.mg X.base (L2.CX X.prog X.w) k f fd ps (spF X.K cA 0 none F)) (hr : Room k X.A)
    (hg : Gl X x) (hm : X.mg x = some (.ref f)) (hk : PySem.W.keepIn X.K (.ref f) = true) (hb : Binds X.K fd ps []) (tk : Takes X W)
    (hdb : (x == ("__debug__" : Str)) = false := by kernel_rfl) : DE X cA W (dCall0 F) (.Call (.Name x p) [] [] pos) := by
  have h0 : PE X (.Call (.Name x p) [] [] pos) (fun σ H Q => spF X.K cA 0 none F [] H Q (WE W σ)) := by
    refine ⟨fun pins s σ H Q I h => ?_⟩
    refine wpAny_Call_Name_kw (ld_glob I hg hm ?_ hdb)
    exact PySem.W.callWith_K0 I.kIn hk (run_fnS (us := []) Fo hr hb (passAt tk σ) I .nil h)
  exact de_of h0 fun σ H Q Z L ρ r w p => call_in (f1 := []) (xs := []) rfl r w ⟨rfl, rfl⟩ Fr.refl p
end
end
end DL
namespace DL
open PySem L2

theorem Pin.refl {k : Option Nat} {σ : L2.St} : Pin k σ σ := fun _ _ => rfl
theorem Pin.trans {k : Option Nat} {σ σ1 σ2 : L2.St} (a : Pin k σ σ1) (b : Pin k σ1 σ2) : Pin k σ σ2 := fun i e => (b i e).trans (a i e)
theorem Pin.set {k : Option Nat} {σ : L2.St} {i : Nat} {v : Option V} (h : k ≠ some i) : Pin k σ (σ.set i v) := fun j e => by
  have : i ≠ j := fun z => h (by rw [z]; exact e)
  rw [List.getElem?_set_ne this]
section
variable {K : PySem.W.Frag} {cA : Str → Addr} {W : WX} {k : Option Nat}
theorem postS_tr {σ σ1 : L2.St} {H H1 : Hp} {Z Z1 : ZS} {L L1 : FP} {T : Ends} {o : Fl} (F : Fr H Z L H1 Z1 L1) (pn : Pin k σ σ1) (p : PostS K cA W k σ H Z L T o) : PostS K cA W k σ1 H1 Z1 L1 T o := by
  cases o with
  | st => exact p
  | nx ρ' => exact fun σ' H' Z' L' r w f q => p σ' H' Z' L' r w (F.trans f) (pn.trans q)
  | bk ρ' => exact fun σ' H' Z' L' r w f q => p σ' H' Z' L' r w (F.trans f) (pn.trans q)
  | ct ρ' => exact fun σ' H' Z' L' r w f q => p σ' H' Z' L' r w (F.trans f) (pn.trans q)
  | rt d ρ' => exact fun v σ' H' Z' L' fp r w h f q => p v σ' H' Z' L' fp r w h (F.trans f) (pn.trans q)
  | ex e ρ' => exact fun cls d σ' H' Z' L' r w x f q => p cls d σ' H' Z' L' r w x (F.trans f) (pn.trans q)
/-- .. the ends where the ways go on elsewhere -/
theorem postS_nx {σ : L2.St} {H : Hp} {Z : ZS} {L : FP} {T : Ends} {N : L2.St → Hp → Prop} {f : Env → Fl} {ρ : Env} {o : Fl} : True := trivial
/-- an expression within a statement: its exception is the statement's -/
theorem post_es {σ : L2.St} {H : Hp} {Z : ZS} {L : FP} {T : Ends} {e : Exn} {ρ' : Env} (p : PostS K cA W k σ H Z L T (.ex e ρ')) :
    ∀ cls d H' Z' L', RelL K cA H' Z' ρ' σ L' → Wf H' Z' L' → ExR cA H' Z' e cls d → Fr H Z L H' Z' L' → W cls d σ H' := fun cls d H' Z' L' r w x f => p cls d σ H' Z' L' r w x f Pin.refl
end

/-! ### blocks -/
def dNext : Env → Fl := fun ρ => .nx ρ
@[irreducible] def dSeq (f g : Env → Fl) : Env → Fl := fun ρ => match f ρ with
  | .nx ρ1 => g ρ1
  | o => o
def dBreak : Env → Fl := fun ρ => .bk ρ
def dCont : Env → Fl := fun ρ => .ct ρ
section
variable {X : Cx} {cA : Str → Addr} {W : WX} {k : Option Nat} {f g : Env → Fl} {st : Stmt} {rest : List Stmt} {pos : Pos}
theorem dss_nil : DSs X cA W k dNext [] := dss_of pss_nil fun D σ H Z L ρ r w p => p σ H Z L r w Fr.refl Pin.refl
theorem dss_one (h : DS X cA W k f st) : DSs X cA W k f [st] := pss_one h
theorem dss_cons (h : DS X cA W k f st) (h2 : DSs X cA W k g rest) : DSs X cA W k (dSeq f g) (st :: rest) := dss_of (pss_cons h h2) fun D σ H Z L ρ r w p => by
  refine ⟨Z, L, ρ, r, w, ?_⟩
  unfold dSeq at p
  cases hf : f ρ with
  | nx ρ1 =>
    rw [hf] at p
    exact fun σ1 H1 Z1 L1 r1 w1 F1 q1 => ⟨Z1, L1, ρ1, r1, w1, postS_tr F1 q1 p⟩
  | st => rw [hf] at p; exact p
  | bk ρ1 => rw [hf] at p; exact p
  | ct ρ1 => rw [hf] at p; exact p
  | rt d ρ1 => rw [hf] at p; exact p
  | ex e ρ1 => rw [hf] at p; exact p
theorem ds_pass : DS X cA W k dNext (.Pass pos) := ds_of ps_pass fun D σ H Z L ρ r w p => p σ H Z L r w Fr.refl Pin.refl
theorem ds_break : DS X cA W k dBreak (.Break pos) := ds_of ps_break fun D σ H Z L ρ r w p => p σ H Z L r w Fr.refl Pin.refl
theorem ds_continue : DS X cA W k dCont (.Continue pos) := ds_of ps_continue fun D σ H Z L ρ r w p => p σ H Z L r w Fr.refl Pin.refl
theorem ds_doc {x : Str} {j pos pos'} : DS X cA W k dNext (.Expr (.Constant (.str x) j pos) pos') := ds_of ps_doc fun D σ H Z L ρ r w p => p σ H Z L r w Fr.refl Pin.refl
end
/-- a value, then -/
def dBind (f : Env → Out D) (h : D → Env → Fl) : Env → Fl := fun ρ => match f ρ with
  | .ok d ρ1 => h d ρ1
  | .ex e ρ1 => .ex e ρ1
  | .st => .st
section
variable {X : Cx} {cA : Str → Addr} {W : WX} {k : Option Nat} {f : Env → Out D} {e : Expr} {pos : Pos} {te : TE}
/-- the pattern: an expression's reading is asked, then the rest -/
theorem bind_te {K : PySem.W.Frag} {σ : L2.St} {H : Hp} {Z : ZS} {L : FP} {ρ : Env} {T : Ends} {h : D → Env → Fl} {Q : VK} (r : RelL K cA H Z ρ σ L) (w : Wf H Z L) (p : PostS K cA W k σ H Z L T (dBind f h ρ))
    (n : ∀ d ρ1 v H1 Z1 L1 fp, f ρ = .ok d ρ1 → RelL K cA H1 Z1 ρ1 σ L1 → Wf H1 Z1 (fp ++ L1) → RepD K cA H1 Z1 d v fp → Fr H Z L H1 Z1 (fp ++ L1) → PostS K cA W k σ H Z L T (h d ρ1) → Q v H1) : TEof K cA W f σ H Q := by
  refine ⟨Z, L, ρ, r, w, ?_⟩
  unfold dBind at p
  cases hf : f ρ with
  | st => rw [hf] at p; exact p
  | ex e ρ1 => rw [hf] at p; exact post_es p
  | ok d ρ1 =>
    rw [hf] at p
    exact fun v H1 Z1 L1 fp r1 w1 h1 F1 => n d ρ1 v H1 Z1 L1 fp hf r1 w1 h1 F1 p
theorem ds_expr (he : DE X cA W f e) (hs : swapsWith e none pos.line X.env = pure false := by kernel_rfl) : DS X cA W k (dBind f fun _ ρ => .nx ρ) (.Expr e pos) :=
  ds_of (ps_expr he hs) fun D σ H Z L ρ r w p => bind_te r w p fun d ρ1 v H1 Z1 L1 fp hd r1 w1 h1 F1 p => p σ H1 Z1 L1 r1 (w1.less (List.sublist_append_right _ _)) (F1.less fun x m => by simp [m]) Pin.refl
theorem ds_ret (he : DE X cA W f e) : DS X cA W k (dBind f fun d ρ => .rt d ρ) (.Return (some e) pos) :=
  ds_of (ps_ret he) fun D σ H Z L ρ r w p => bind_te r w p fun d ρ1 v H1 Z1 L1 fp hd r1 w1 h1 F1 p => p v σ H1 Z1 L1 fp r1 w1 h1 F1 Pin.refl
theorem ds_retN : DS X cA W k (fun ρ => .rt .non ρ) (.Return none pos) :=
  ds_of ps_retN fun D σ H Z L ρ r w p => p _ σ H Z L [] r w ⟨rfl, rfl⟩ Fr.refl Pin.refl
/-- return x: x is handed over -/
def dRetMv (i : Nat) : Env → Fl := fun ρ => match ρ[i]? with
  | some (some d) => .rt d (ρ.set i none)
  | _ => .st
theorem ds_retMv {i : Nat} (he : PE X e (tVar i)) : DS X cA W k (dRetMv i) (.Return (some e) pos) := ds_of (ps_ret he) fun D σ H Z L ρ r w p => by
  unfold dRetMv at p
  split at p
  · rename_i d hd
    obtain ⟨v, f0, f1, f2, hv, hr, ef, _, cut⟩ := relL_at r hd
    have pm : L.Perm (f1 ++ (f0 ++ f2)) := by
      rw [ef, List.append_assoc]
      exact (List.perm_append_comm_assoc f0 f1 f2)
    exact ⟨v, hv, p v σ H Z (f0 ++ f2) f1 (cut (fun _ z => z) (fun _ _ _ e => e)) (w.perm pm) hr (Fr.refl.less fun x m => pm.mem_iff.mpr m) Pin.refl⟩
  · exact p.elim
def dIf (t : Env → Out Bool) (f g : Env → Fl) : Env → Fl := fun ρ => match t ρ with
  | .ok true ρ1 => f ρ1
  | .ok false ρ1 => g ρ1
  | .ex e ρ1 => .ex e ρ1
  | .st => .st
theorem ds_if {c : Expr} {a b : List Stmt} {t : Env → Out Bool} {ff gg : Env → Fl} (hc : DT X cA W t c) (ha : DSs X cA W k ff a) (hb : DSs X cA W k gg b) : DS X cA W k (dIf t ff gg) (.If c a b pos) := ds_of (ps_if hc ha hb) fun D σ H Z L ρ r w p => by
  refine ⟨Z, L, ρ, r, w, ?_⟩
  unfold dIf at p
  cases ht : t ρ with
  | st => rw [ht] at p; exact p
  | ex e ρ1 => rw [ht] at p; exact post_es p
  | ok b ρ1 =>
    rw [ht] at p
    intro H1 Z1 L1 r1 w1 F1
    cases b with
    | true => exact ⟨Z1, L1, ρ1, r1, w1, postS_tr F1 Pin.refl p⟩
    | false => exact ⟨Z1, L1, ρ1, r1, w1, postS_tr F1 Pin.refl p⟩
/-- code that is never reached -/
def dNo : Env → Fl := fun _ => .st
theorem ds_no {st : Stmt} : DS X cA W k dNo st := ds_of ps_never fun D σ H Z L ρ r w p => p.elim

/-! ### stores -/
def stSet (i : Nat) (d : D) (ρ : Env) : Fl := if i < ρ.length then .nx (ρ.set i (some d)) else .st
theorem put_slot {K : PySem.W.Frag} {σ : L2.St} {H H1 : Hp} {Z Z1 : ZS} {L L1 fp : FP} {T : Ends} {ρ1 : Env} {i : Nat} {d : D} {v : V} (hk : k ≠ some i) (r1 : RelL K cA H1 Z1 ρ1 σ L1) (w1 : Wf H1 Z1 (fp ++ L1)) (h1 : RepD K cA H1 Z1 d v fp)
    (F1 : Fr H Z L H1 Z1 (fp ++ L1)) (p : PostS K cA W k σ H Z L T (stSet i d ρ1)) : T.nx (σ.set i (some v)) H1 := by
  unfold stSet at p
  split at p
  · rename_i hi
    obtain ⟨f0, f2, hs, q⟩ := relL_set r1 hi h1
    have pm : (fp ++ (f0 ++ f2)).Perm (f0 ++ fp ++ f2) := by
      rw [List.append_assoc]
      exact List.perm_append_comm_assoc fp f0 f2
    have w2 := (w1.less ((List.Sublist.refl fp).append hs)).perm pm
    exact p _ H1 Z1 _ q w2 (F1.less fun x m => by
      have := pm.mem_iff.mpr m
      rcases List.mem_append.mp this with z | z
      · simp [z]
      · simp [hs.subset z]) (Pin.set hk)
  · exact p.elim
theorem ds_set {i : Nat} {x : Str} {pos' : Pos} (hN : X.N.Nodup) (hi : X.N[i]? = some x) (hx : Loc X.env.scope x) (he : DE X cA W f e) (hk : k ≠ some i := by decide) (hs : swapsWith e (some (.Name x pos')) pos.line X.env = pure false := by kernel_rfl)
    (hf : X.fn x = true ∨ X.env.scope.names.lookup x = some .local := by first | exact .inl rfl | exact .inr rfl | assumption) : DS X cA W k (dBind f (stSet i)) (.Assign [.Name x pos'] e pos) :=
  ds_of (ps_set hN hi hx he hs hf) fun D σ H Z L ρ r w p => bind_te r w p fun d ρ1 v H1 Z1 L1 fp hd r1 w1 h1 F1 p => put_slot hk r1 w1 h1 F1 p
/-! ### targets -/
/-- σ' is σ but at ts -/
def But (ts : List Nat) (σ σ' : L2.St) : Prop := σ'.length = σ.length ∧ ∀ j, j ∉ ts → σ'[j]? = σ[j]?
theorem But.pin {ts : List Nat} {σ σ' : L2.St} (b : But ts σ σ') (h : ∀ i, k = some i → i ∉ ts) : Pin k σ σ' := fun i e => b.2 i (h i e)
theorem But.set {σ : L2.St} {i : Nat} {v : Option V} : But [i] σ (σ.set i v) := ⟨List.length_set .., fun j hj => by
  have : i ≠ j := fun z => hj (by simp [z])
  rw [List.getElem?_set_ne this]⟩
def TGof (K : PySem.W.Frag) (cA : Str → Addr) (ts : List Nat) (g : D → Env → Option Env) : TG := fun v σ H Q => ∃ d Z L ρ ρ', RelL K cA H Z ρ σ L ∧ Wf H Z L ∧ RepD K cA H Z d v [] ∧ g d ρ = some ρ' ∧
  ∀ σ' H' Z' L', RelL K cA H' Z' ρ' σ' L' → Wf H' Z' L' → Fr H Z L H' Z' L' → But ts σ σ' → Q σ' H'
def DG (X : Cx) (cA : Str → Addr) (ts : List Nat) (g : D → Env → Option Env) (tg : Expr) : Prop := PG X tg (TGof X.K cA ts g)
def tg1 (i : Nat) (d : D) (ρ : Env) : Option Env := if i < ρ.length then some (ρ.set i (some d)) else none
def tgL : List Nat → List D → Env → Option Env
  | [], [], ρ => some ρ
  | i :: is, d :: ds, ρ => if i < ρ.length then tgL is ds (ρ.set i (some d)) else none
  | _, _, _ => none
def tgT (is : List Nat) (d : D) (ρ : Env) : Option Env := match d with
  | .n .tup _ xs => tgL is xs ρ
  | _ => none
theorem PG.imp {tg : Expr} {t t' : TG} (h : PG X tg t) (i : ∀ v σ H Q, t' v σ H Q → t v σ H Q) : PG X tg t' := ⟨fun pins s σ H v u Q I r w => h.run pins s σ H v u Q I r (i v σ H Q w)⟩
theorem dg_name {i : Nat} {x : Str} (hN : X.N.Nodup) (hi : X.N[i]? = some x) (hx : Loc X.env.scope x) (hf : X.fn x = true ∨ X.env.scope.names.lookup x = some .local := by first | exact .inl rfl | exact .inr rfl | assumption) : DG X cA [i] (tg1 i) (.Name x pos) :=
  PG.imp (pg_name hN hi hx hf) fun v σ H Q ⟨d, Z, L, ρ, ρ', r, w, h, e, q⟩ => by
    unfold tg1 at e
    split at e
    · rename_i hl
      cases e
      obtain ⟨f0, f2, hs, q'⟩ := relL_set r hl h
      exact q _ H Z _ q' (w.less (by simpa using hs)) (Fr.refl.less fun x m => hs.subset (by simpa using m)) But.set
    · cases e
theorem tgL_len : ∀ {is : List Nat} {xs : List D} {ρ ρ' : Env}, tgL is xs ρ = some ρ' → xs.length = is.length
  | [], [], _, _, _ => rfl
  | [], a :: b, _, _, e => by simp [tgL] at e
  | i :: is, [], _, _, e => by simp [tgL] at e
  | i :: is, a :: b, ρ, ρ', e => by
    unfold tgL at e
    split at e
    · rw [List.length_cons, List.length_cons, tgL_len e]
    · cases e
theorem dFz_isF {f : Env → Out D} {ρ ρ1 : Env} {d : D} (h : dFz f ρ = .ok d ρ1) : isF d = true := by
  unfold dFz at h
  split at h
  · cases h
    exact isF_frz _
  · cases h
  · cases h
/-- several names, from the left -/
inductive DGs (X : Cx) : List Nat → List Expr → Prop where
  | nil : DGs X [] []
  | cons {i : Nat} {x : Str} {pos : Pos} {is : List Nat} {es : List Expr} (h : PG X (.Name x pos) (gName i)) (t : DGs X is es)
      (hs : (assignEach (.Name x pos :: es) X.env).map (·.2) = assign (.Name x pos) X.env :: (assignEach es X.env).map (·.2)) : DGs X (i :: is) (.Name x pos :: es)
def gNames : List Nat → TGs
  | [] => gNil
  | i :: is => gCons (gName i) (gNames is)
theorem DGs.pgs : ∀ {is : List Nat} {es : List Expr}, DGs X is es → PGs X es (gNames is)
  | _, _, .nil => pgs_nil
  | _, _, .cons h t hs => pgs_cons h t.pgs hs
theorem names_ok {K : PySem.W.Frag} {Q : L2.St → Hp → Prop} {H : Hp} {Z : ZS} : ∀ {is : List Nat} {ds : List D} {vs : List V} {ρ ρ' : Env} {σ : L2.St} {L : FP}, RelL K cA H Z ρ σ L → Wf H Z L → RepL K cA H Z ds vs [] → tgL is ds ρ = some ρ' →
    (∀ σ' L', RelL K cA H Z ρ' σ' L' → Wf H Z L' → Fr H Z L H Z L' → But is σ σ' → Q σ' H) → gNames is vs σ H Q
  | [], [], vs, ρ, ρ', σ, L, r, w, h, e, q => by
    cases e
    exact ⟨h.1, q σ L r w Fr.refl ⟨rfl, fun _ _ => rfl⟩⟩
  | [], d :: ds, vs, ρ, ρ', σ, L, r, w, h, e, q => by simp [tgL] at e
  | i :: is, [], vs, ρ, ρ', σ, L, r, w, h, e, q => by simp [tgL] at e
  | i :: is, d :: ds, vs, ρ, ρ', σ, L, r, w, h, e, q => by
    obtain ⟨v, vs', f1, f2, ev, h1, h2, ef⟩ := h
    have e2 := List.append_eq_nil_iff.mp ef.symm
    rw [e2.1] at h1
    rw [e2.2] at h2
    unfold tgL at e
    split at e
    · rename_i hl
      obtain ⟨f0, f3, hs, r'⟩ := relL_set r hl h1
      refine ⟨v, vs', ev, ?_⟩
      refine names_ok r' (w.less (by simpa using hs)) h2 e fun σ' L' r2 w2 F2 b2 => ?_
      refine q σ' L' r2 w2 ((Fr.refl.less fun x m => hs.subset (by simpa using m)).trans F2) ⟨by rw [b2.1, List.length_set], fun j hj => ?_⟩
      have hij : i ≠ j := fun z => hj (by simp [z])
      rw [b2.2 j fun m => hj (by simp [m]), List.getElem?_set_ne hij]
    · cases e
theorem dg_tup {is : List Nat} {es : List Expr} {x1 : Nat} {n : Nat} (hc : X.calm = true) (h : DGs X is es) (hl : is.length = n) (hn : (assignEach es X.env).length = n := by kernel_rfl) (hst : (assignEach es X.env).findIdx? (·.1) = none := by kernel_rfl) :
    DG X cA is (tgT is) (.Tuple es x1 pos) := PG.imp (pg_tup hc h.pgs hn hst) fun v σ H Q ⟨d, Z, L, ρ, ρ', r, w, hd, e, q⟩ => by
  unfold tgT at e
  split at e
  · rename_i o xs
    obtain ⟨p, vs, rfl, e1, r1, _⟩ := rep_tup hd
    have len : vs.length = n := by
      rw [repL_len r1, ← hl]
      exact tgL_len e
    exact ⟨p, vs, rfl, e1, len, names_ok r w r1 e fun σ' L' r2 w2 F2 b2 => q σ' H Z L' r2 w2 F2 b2⟩
  · cases e
/-- target = value (frozen) -/
def stTg (g : D → Env → Option Env) (d : D) (ρ : Env) : Fl := match g d ρ with
  | some ρ' => .nx ρ'
  | none => .st
theorem ds_asg {tg : Expr} {ts : List Nat} {g : D → Env → Option Env} (hg : DG X cA ts g tg) (he : DE X cA W (dFz f) e) (hk : ∀ i, k = some i → i ∉ ts) (hs : swapsWithSole [tg] e pos.line X.env = pure false := by kernel_rfl) (hw : swappedStores [tg] e X.env = pure none := by kernel_rfl)
    (h1 : (assignEach [tg] X.env).map (·.2) = [assign tg X.env] := by kernel_rfl) : DS X cA W k (dBind (dFz f) (stTg g)) (.Assign [tg] e pos) :=
  ds_of (ps_asg he hg hs hw h1) fun T σ H Z L ρ r w p => bind_te r w p fun d ρ1 v H1 Z1 L1 fp hd r1 w1 h1 F1 p => by
    unfold stTg at p
    split at p
    · rename_i ρ' hg'
      have ef := repD_isF d h1 (dFz_isF hd)
      subst ef
      exact ⟨d, Z1, L1, ρ1, ρ', r1, w1, h1, hg', fun σ' H' Z' L' r' w' F' b => p σ' H' Z' L' r' w' (F1.trans F') (b.pin hk)⟩
    · exact p.elim
/-- a, b = x, y: stored from the right -/
def dPar (i j : Nat) (g : Env → Out (List Ag)) : Env → Fl := fun ρ => match g ρ with
  | .ok [.d a, .d b] ρ1 => if i < ρ1.length ∧ j < ρ1.length then .nx ((ρ1.set i (some a)).set j (some b)) else .st
  | .ok _ _ => .st
  | .ex e ρ1 => .ex e ρ1
  | .st => .st
theorem ds_par {i j : Nat} {x y : Str} {a b : Expr} {g : Env → Out (List Ag)} {px py pt : Pos} {kt k2 pt2} (hc : X.calm = true) (hN : X.N.Nodup) (hi : X.N[i]? = some x) (hj : X.N[j]? = some y) (hij : i ≠ j)
    (hx : X.env.scope.names.lookup x = some .local) (hy : X.env.scope.names.lookup y = some .local) (ha : DA X cA W g [a, b]) (hki : k ≠ some i) (hkj : k ≠ some j)
    (hw : swappedStores [.Tuple [.Name x px, .Name y py] kt pt] (.Tuple [a, b] k2 pt2) X.env = pure (some [x, y]))
    (hs : swapsWithSole [.Tuple [.Name x px, .Name y py] kt pt] (.Tuple [a, b] k2 pt2) pos.line X.env = pure false := by kernel_rfl) :
    DS X cA W k (dPar i j g) (.Assign [.Tuple [.Name x px, .Name y py] kt pt] (.Tuple [a, b] k2 pt2) pos) :=
  ds_of (L2.ps_par hc hN hi hj hij hx hy ha hw hs) fun T σ H Z L ρ r w p => by
    refine ⟨Z, L, ρ, r, w, ?_⟩
    unfold dPar at p
    cases hg : g ρ with
    | st => rw [hg] at p; exact p
    | ex e ρ1 => rw [hg] at p; exact post_es p
    | ok ds ρ1 =>
      rw [hg] at p
      intro vs H1 Z1 L1 fp r1 w1 h1 F1
      split at p
      · rename_i a b ρ2 e
        cases e
        split at p
        · rename_i hl
          obtain ⟨v, vs', f1, f2, ev, d1, h2, ef⟩ := h1
          obtain ⟨u, vs2, f3, f4, ev2, d2, h3, ef2⟩ := h2
          obtain ⟨e3, e4⟩ := h3
          subst e3 ev2 ev ef e4 ef2
          rw [List.append_nil] at w1 F1
          refine ⟨v, u, rfl, ?_⟩
          obtain ⟨g0, g2, hs, q⟩ := relL_set r1 hl.1 d1
          have hl2 : j < (ρ1.set i (some a)).length := by rw [List.length_set]; exact hl.2
          obtain ⟨g3, g4, hs2, q2⟩ := relL_set q hl2 d2
          -- what is left of the slots' footprints
          have nd := w1.nd
          have hsub : ∀ x ∈ g3 ++ f3 ++ g4, x ∈ f1 ++ f3 ++ L1 := fun x m => by
            rcases List.mem_append.mp m with m | m
            · rcases List.mem_append.mp m with m | m
              · have := hs2.subset (show x ∈ g3 ++ g4 by simp [m])
                rcases List.mem_append.mp this with z | z
                · rcases List.mem_append.mp z with z | z
                  · simp [hs.subset (show x ∈ g0 ++ g2 by simp [z])]
                  · simp [z]
                · simp [hs.subset (show x ∈ g0 ++ g2 by simp [z])]
              · simp [m]
            · have := hs2.subset (show x ∈ g3 ++ g4 by simp [m])
              rcases List.mem_append.mp this with z | z
              · rcases List.mem_append.mp z with z | z
                · simp [hs.subset (show x ∈ g0 ++ g2 by simp [z])]
                · simp [z]
              · simp [hs.subset (show x ∈ g0 ++ g2 by simp [z])]
          have p1 : (f3 ++ (g0 ++ f1 ++ g2)).Perm (f1 ++ f3 ++ (g0 ++ g2)) := by
            have a1 : (g0 ++ f1 ++ g2).Perm (f1 ++ (g0 ++ g2)) := by
              rw [List.append_assoc]; exact List.perm_append_comm_assoc g0 f1 g2
            refine (List.Perm.append_left f3 a1).trans ?_
            rw [List.append_assoc]
            exact List.perm_append_comm_assoc f3 f1 (g0 ++ g2)
          have wA : Wf H1 Z1 (f3 ++ (g0 ++ f1 ++ g2)) := (w1.less ((List.Sublist.refl (f1 ++ f3)).append hs)).perm p1.symm
          have p2 : (f3 ++ (g3 ++ g4)).Perm (g3 ++ f3 ++ g4) := by
            rw [List.append_assoc]; exact List.perm_append_comm_assoc f3 g3 g4
          have wB : Wf H1 Z1 (g3 ++ f3 ++ g4) := (wA.less ((List.Sublist.refl f3).append hs2)).perm p2
          exact p _ H1 Z1 _ q2 wB (F1.less hsub) ((Pin.set hki).trans (Pin.set hkj))
        · exact p.elim
      · exact p.elim
      · rename_i e; cases e
      · rename_i e; cases e
/-- x op= e, of ints -/
def dAug (i : Nat) (h : Int → Int → Int) (f : Env → Out D) : Env → Fl := fun ρ => match ρ[i]? with
  | some (some (.a (.int a))) => (match f ρ with
    | .ok (.a (.int b)) ρ1 => stSet i (.int (h a b)) ρ1
    | .ok _ _ => .st
    | .ex e ρ1 => .ex e ρ1
    | .st => .st)
  | _ => .st
theorem ds_aug {i : Nat} {x : Str} {op : Operator} {h : Int → Int → Int} {pos' : Pos} (hN : X.N.Nodup) (hi : X.N[i]? = some x) (hx : Loc X.env.scope x) (he : DE X cA W f e) (ho : PIp X op (ipI h)) (hk : k ≠ some i := by decide)
    (hf : X.fn x = true ∨ X.env.scope.names.lookup x = some .local := by first | exact .inl rfl | exact .inr rfl | assumption) : DS X cA W k (dAug i h f) (.AugAssign (.Name x pos') op e pos) :=
  ds_of (ps_aug hN hi hx he ho hf) fun T σ H Z L ρ r w p => by
    unfold dAug at p
    split at p
    · rename_i a ha
      obtain ⟨v, f0, f1, f2, hv, hr, ef, _, _⟩ := relL_at r ha
      obtain ⟨e1, _⟩ := hr
      subst e1
      refine ⟨_, hv, Z, L, ρ, r, w, ?_⟩
      cases hg : f ρ with
      | st => rw [hg] at p; exact p
      | ex e ρ1 => rw [hg] at p; exact post_es p
      | ok d ρ1 =>
        rw [hg] at p
        intro u H1 Z1 L1 fp r1 w1 h1 F1
        cases d with
        | n k o xs => exact p.elim
        | a x =>
          cases x with
          | non => exact p.elim
          | bl b => exact p.elim
          | str s => exact p.elim
          | int b =>
            obtain ⟨e2, e3⟩ := h1
            subst e2 e3
            exact ⟨a, b, rfl, rfl, put_slot (fp := []) (d := .int (h a b)) hk r1 w1 ⟨rfl, rfl⟩ F1 p⟩
    · exact p.elim
end
end DL
namespace DL
open PySem L2

/-! ### a slot that holds an owned list -/
section
variable {K : PySem.W.Frag} {cA : Str → Addr} {H : Hp} {Z : ZS}
theorem set_same {σ : L2.St} {i : Nat} {v : V} (h : σ[i]? = some (some v)) : σ.set i (some v) = σ := by
  apply List.ext_getElem?
  intro j
  by_cases hj : i = j
  · subst hj
    rw [h, List.getElem?_set_self (List.getElem?_eq_some_iff.mp h).1]
  · rw [List.getElem?_set_ne hj]
/-- the list at p (owned by slot i) is written: its new items ys, footprint g2, some of it from the hand -/
theorem own_write {ρ : Env} {σ : L2.St} {L hd : FP} {i : Nat} {p : Addr} {ys : List D} {vs ws : List V} {f0 g f2 g2 : FP} {Z0 : ZS} {H0 : Hp} {L0 : FP}
    (w : Wf H Z (hd ++ L)) (r : RelL K cA H Z ρ σ L) (hp : H p = some (.lst vs)) (eL : L = f0 ++ (p :: g) ++ f2) (hσ : σ[i]? = some (some (.ref p)))
    (put : ∀ {H' : Hp} {Z' : ZS} {d' : D} {v' : V} {g' : FP}, (∀ a, Z a → Z' a) → (∀ a o, (Z a ∨ a ∈ f0 ∨ a ∈ f2) → H a = some o → H' a = some o) → RepD K cA H' Z' d' v' g' → RelL K cA H' Z' (ρ.set i (some d')) (σ.set i (some v')) (f0 ++ g' ++ f2))
    (ry : RepL K cA H Z ys ws g2) (sub : ∀ a ∈ g2, a ∈ g ∨ a ∈ hd) (nd2 : g2.Nodup) (F : Fr H0 Z0 L0 H Z (hd ++ L)) :
    RelL K cA (upd H p (.lst ws)) Z (ρ.set i (some (.lst true ys))) σ (f0 ++ (p :: g2) ++ f2) ∧ Wf (upd H p (.lst ws)) Z (f0 ++ (p :: g2) ++ f2) ∧ Fr H0 Z0 L0 (upd H p (.lst ws)) Z (f0 ++ (p :: g2) ++ f2) := by
  subst eL
  have nd := List.nodup_append.mp w.nd
  have ndL := List.nodup_append.mp nd.2.1
  have ndL1 := List.nodup_append.mp ndL.1
  have ndp := List.nodup_cons.mp ndL1.2.1
  have pz : ¬ Z p := w.dj p (by simp)
  have pf0 : p ∉ f0 := fun m => ndL1.2.2 p m p (by simp) rfl
  have pf2 : p ∉ f2 := fun m => ndL.2.2 p (by simp) p m rfl
  have phd : p ∉ hd := fun m => nd.2.2 p m p (by simp) rfl
  have pg2 : p ∉ g2 := fun m => (sub p m).elim ndp.1 phd
  have kn : ∀ a o, a ≠ p → H a = some o → upd H p (.lst ws) a = some o := fun a o n e => by rw [upd_ne n]; exact e
  have rep' : RepD K cA (upd H p (.lst ws)) Z (.lst true ys) (.ref p) (p :: g2) := ⟨p, ws, g2, rfl, repL_mono ys (fun _ z => z) (fun a o m e => kn a o (fun q => by
    subst q
    exact m.elim pz pg2) e) ry, ⟨upd_same, fun q => nomatch q⟩, rfl, fun q => nomatch q⟩
  have q := put (H' := upd H p (.lst ws)) (Z' := Z) (fun _ z => z) (fun a o m e => kn a o (fun q => by
    subst q
    rcases m with m | m | m
    · exact pz m
    · exact pf0 m
    · exact pf2 m) e) rep'
  rw [set_same hσ] at q
  have inall : ∀ a ∈ f0 ++ (p :: g2) ++ f2, a ∈ hd ++ (f0 ++ (p :: g) ++ f2) := fun a m => by
    simp only [List.mem_append, List.mem_cons] at m ⊢
    rcases m with (m | m | m) | m
    · simp [m]
    · simp [m]
    · rcases sub a m with z | z <;> simp [z]
    · simp [m]
  refine ⟨q, ⟨?_, fun a m => w.dj a (inall a m), fun a z => ?_⟩, ⟨fun a o e n => ?_, F.zm, F.zs, fun a m => F.ls a (inall a m)⟩⟩
  · refine List.nodup_append.mpr ⟨List.nodup_append.mpr ⟨ndL1.1, List.nodup_cons.mpr ⟨pg2, nd2⟩, fun a ha b hb e => ?_⟩, ndL.2.1, fun a ha b hb e => ?_⟩
    · subst e
      rcases List.mem_cons.mp hb with rfl | hb
      · exact pf0 ha
      · rcases sub a hb with z | z
        · exact ndL1.2.2 a ha a (by simp [z]) rfl
        · exact nd.2.2 a z a (by simp [ha]) rfl
    · subst e
      rcases List.mem_append.mp ha with ha | ha
      · exact ndL.2.2 a (by simp [ha]) a hb rfl
      · rcases List.mem_cons.mp ha with rfl | ha
        · exact pf2 hb
        · rcases sub a ha with z | z
          · exact ndL.2.2 a (by simp [z]) a hb rfl
          · exact nd.2.2 a z a (by simp [hb]) rfl
  · obtain ⟨o, e⟩ := w.tz a z
    by_cases h : a = p
    · subst h; exact absurd z pz
    · exact ⟨o, kn a o h e⟩
  · have h1 := F.keep a o e n
    by_cases h : a = p
    · subst h
      rcases F.ls a (by simp) with z | z
      · exact absurd z n
      · rw [z] at e; cases e
    · exact kn a o h h1
theorem relL_own {ρ : Env} {σ : L2.St} {L : FP} {i : Nat} {xs : List D} (r : RelL K cA H Z ρ σ L) (h : ρ[i]? = some (some (.lst true xs))) : ∃ p vs g f0 f2, σ[i]? = some (some (.ref p)) ∧ H p = some (.lst vs) ∧ RepL K cA H Z xs vs g ∧ L = f0 ++ (p :: g) ++ f2 ∧
    (∀ {H' : Hp} {Z' : ZS} {d' : D} {v' : V} {g' : FP}, (∀ a, Z a → Z' a) → (∀ a o, (Z a ∨ a ∈ f0 ∨ a ∈ f2) → H a = some o → H' a = some o) → RepD K cA H' Z' d' v' g' → RelL K cA H' Z' (ρ.set i (some d')) (σ.set i (some v')) (f0 ++ g' ++ f2)) := by
  obtain ⟨v, f0, f1, f2, hv, hr, ef, put, _⟩ := relL_at r h
  obtain ⟨p, vs, g, rfl, e1, r1, e2, _⟩ := rep_lst hr
  rw [if_pos rfl] at e2
  subst e2
  exact ⟨p, vs, g, f0, f2, hv, e1, r1, ef, put⟩
theorem repL_set' {xs : List D} {vs : List V} {g : FP} (h : RepL K cA H Z xs vs g) : ∀ {j : Nat} {d : D} {v : V} {f : FP}, j < xs.length → RepD K cA H Z d v f → ∃ g0 g2, (g0 ++ g2).Sublist g ∧ RepL K cA H Z (xs.set j d) (vs.set j v) (g0 ++ f ++ g2) := by
  induction xs generalizing vs g with
  | nil => intro j d v f hj; simp at hj
  | cons x xs ih =>
    intro j d v f hj hd
    obtain ⟨u, vs', f1, f2, ev, h1, h2, ef⟩ := h
    subst ev ef
    cases j with
    | zero => exact ⟨[], f2, by simp, v, vs', f, f2, rfl, hd, h2, by simp⟩
    | succ j =>
      obtain ⟨g0, g2, hs, q⟩ := ih h2 (by simpa using hj) hd
      refine ⟨f1 ++ g0, g2, by rw [List.append_assoc]; exact (List.Sublist.refl f1).append hs, u, vs'.set j v, f1, g0 ++ f ++ g2, rfl, h1, q, by simp⟩
theorem repL_erase {xs : List D} {vs : List V} {g : FP} (h : RepL K cA H Z xs vs g) : ∀ {j : Nat} {d : D}, xs[j]? = some d → ∃ v g0 f g2, vs[j]? = some v ∧ RepD K cA H Z d v f ∧ g = g0 ++ f ++ g2 ∧ RepL K cA H Z (xs.eraseIdx j) (vs.eraseIdx j) (g0 ++ g2) := by
  induction xs generalizing vs g with
  | nil => intro j d e; simp at e
  | cons x xs ih =>
    intro j d e
    obtain ⟨u, vs', f1, f2, ev, h1, h2, ef⟩ := h
    subst ev ef
    cases j with
    | zero =>
      simp at e; subst e
      exact ⟨u, [], f1, f2, rfl, h1, by simp, by simpa using h2⟩
    | succ j =>
      obtain ⟨v, g0, f, g2, hv, hr, eg, hx⟩ := ih h2 (by simpa using e)
      exact ⟨v, f1 ++ g0, f, g2, by simpa using hv, hr, by rw [eg]; simp, u, _, f1, g0 ++ g2, rfl, h1, hx, by simp⟩
/-- an item, and how to put another tree of the same value there -/
theorem repL_at {xs : List D} {vs : List V} {g : FP} (h : RepL K cA H Z xs vs g) : ∀ {j : Nat} {d : D}, xs[j]? = some d → ∃ v f0 f1 f2, vs[j]? = some v ∧ RepD K cA H Z d v f1 ∧ g = f0 ++ f1 ++ f2 ∧
    (∀ {H' : Hp} {Z' : ZS} {d' : D} {f' : FP}, (∀ a, Z a → Z' a) → (∀ a o, (Z a ∨ a ∈ f0 ∨ a ∈ f2) → H a = some o → H' a = some o) → RepD K cA H' Z' d' v f' → RepL K cA H' Z' (xs.set j d') vs (f0 ++ f' ++ f2)) := by
  induction xs generalizing vs g with
  | nil => intro j d e; simp at e
  | cons x xs ih =>
    intro j d e
    obtain ⟨u, vs', f1, f2, ev, h1, h2, ef⟩ := h
    subst ev ef
    cases j with
    | zero =>
      simp at e; subst e
      exact ⟨u, [], f1, f2, rfl, h1, by simp, fun {H' Z' d' f'} hz hk q => ⟨u, vs', f', f2, rfl, q, repL_mono xs hz (fun a o m => hk a o (m.imp id fun z => .inr z)) h2, by simp⟩⟩
    | succ j =>
      obtain ⟨v, f0, g1, f3, hv, hr, eg, put⟩ := ih h2 (by simpa using e)
      refine ⟨v, f1 ++ f0, g1, f3, by simpa using hv, hr, by rw [eg]; simp, fun {H' Z' d' f'} hz hk q => ⟨u, vs', f1, f0 ++ f' ++ f3, rfl, ?_, put hz (fun a o m => hk a o (m.imp id fun z => z.imp (fun z => by simp [z]) id)) q, by simp⟩⟩
      exact repD_mono x hz (fun a o m => hk a o (m.imp id fun z => .inl (by simp [z]))) h1
end
def stApp (i : Nat) (d : D) (ρ : Env) : Fl := match ρ[i]? with
  | some (some (.n .lst true xs)) => if xs.length < cap then .nx (ρ.set i (some (.lst true (xs ++ [d])))) else .st
  | _ => .st
def stExt (i : Nat) (d : D) (ρ : Env) : Fl := match ρ[i]? with
  | some (some (.n .lst true xs)) => (match d with
    | .n .lst _ ys => if xs.length + ys.length ≤ cap ∧ isFL ys = true then .nx (ρ.set i (some (.lst true (xs ++ ys)))) else .st
    | _ => .st)
  | _ => .st
/-- the slot is a list ahead of the arguments -/
def dHas (i : Nat) (f : Env → Fl) : Env → Fl := fun ρ => match ρ[i]? with
  | some (some (.n .lst _ _)) => f ρ
  | _ => .st
section
variable {X : Cx} {cA : Str → Addr} {W : WX} {k : Option Nat} {f : Env → Out D} {e o : Expr} {pos apos cpos : Pos}
/-- x.append(e) -/
theorem ds_append {i : Nat} (ho : PE X o (tVar i)) (he : DE X cA W f e)
    (hbase : attributeBase o "append" X.env (eval o X.env) = eval o X.env := by kernel_rfl)
    (hfew : ((backTo cpos (starEach [e] X.env)).all (fun x => !x.1) && (backToKw cpos (keywordEach [] X.env)).all (fun x => x.1.isSome)
      && decide ([e].length + ([] : List Keyword).length + (if ([] : List Keyword).isEmpty then 0 else 1) < 30)) = true := by kernel_rfl)
    (hline : (apos.endLine == cpos.line) = true := by kernel_rfl) (hs : starEach [e] X.env = (false, eval e X.env) :: starEach [] X.env := by kernel_rfl)
    (hsw : swapsWith (.Call (.Attribute o "append" apos) [e] [] cpos) none pos.line X.env = pure false := by kernel_rfl) : DS X cA W k (dHas i (dBind f (stApp i))) (.Expr (.Call (.Attribute o "append" apos) [e] [] cpos) pos) :=
  ds_of (ps_expr (pe_bm PySem.F.plainAttrs_list PySem.F.slot_list_append PySem.F.type_list_append mt_append ho (pa_cons he pa_nil hs) hbase hfew hline hs rfl) hsw) fun T σ H Z L ρ r w p => by
    unfold dHas at p
    split at p
    · rename_i oo zs hz
      obtain ⟨v, f0, f1, f2, hv, hr, ef, _, _⟩ := relL_at r hz
      obtain ⟨p0, vs0, g0, rfl, e0, _, _, _⟩ := rep_lst hr
      refine ⟨_, hv, .inl ⟨rfl, _, SqL.of e0⟩, bind_te r w p fun d ρ1 u H1 Z1 L1 fp hd r1 w1 h1 F1 p => ?_⟩
      unfold stApp at p
      split at p
      · rename_i xs hx
        split at p
        · rename_i hl
          obtain ⟨q, vs, g, f0, f2, hσ, hp, rx, eL, put⟩ := relL_own r1 hx
          rw [hv] at hσ
          cases hσ
          have len := repL_len rx
          have ra := repL_append rx (repL_one h1)
          have nd := List.nodup_append.mp w1.nd
          show rAppend (.ref p0) [u] H1 (fun x H1 => T.nx σ H1)
          refine ⟨p0, vs, u, rfl, rfl, hp, cap_lt (by omega), ?_⟩
          have nd2 : (g ++ fp).Nodup := by
            rw [eL] at nd
            refine List.nodup_append.mpr ⟨(List.nodup_cons.mp (List.nodup_append.mp (List.nodup_append.mp nd.2.1).1).2.1).2, nd.1, fun a ha b hb e => ?_⟩
            subst e
            exact nd.2.2 a hb a (by simp [ha]) rfl
          obtain ⟨a, b, c⟩ := own_write w1 r1 hp eL hv put ra (fun a m => List.mem_append.mp m) nd2 F1
          exact p σ _ Z1 _ a b c Pin.refl
        · exact p.elim
      · exact p.elim
    · exact p.elim
/-- x.extend(e), e a list -/
theorem ds_extend {i : Nat} (ho : PE X o (tVar i)) (he : DE X cA W f e)
    (hbase : attributeBase o "extend" X.env (eval o X.env) = eval o X.env := by kernel_rfl)
    (hfew : ((backTo cpos (starEach [e] X.env)).all (fun x => !x.1) && (backToKw cpos (keywordEach [] X.env)).all (fun x => x.1.isSome)
      && decide ([e].length + ([] : List Keyword).length + (if ([] : List Keyword).isEmpty then 0 else 1) < 30)) = true := by kernel_rfl)
    (hline : (apos.endLine == cpos.line) = true := by kernel_rfl) (hs : starEach [e] X.env = (false, eval e X.env) :: starEach [] X.env := by kernel_rfl)
    (hsw : swapsWith (.Call (.Attribute o "extend" apos) [e] [] cpos) none pos.line X.env = pure false := by kernel_rfl) : DS X cA W k (dHas i (dBind f (stExt i))) (.Expr (.Call (.Attribute o "extend" apos) [e] [] cpos) pos) :=
  ds_of (ps_expr (pe_bm PySem.F.plainAttrs_list PySem.F.slot_list_extend PySem.F.type_list_extend mt_extend ho (pa_cons he pa_nil hs) hbase hfew hline hs rfl) hsw) fun T σ H Z L ρ r w p => by
    unfold dHas at p
    split at p
    · rename_i oo zs hz
      obtain ⟨v, f0, f1, f2, hv, hr, ef, _, _⟩ := relL_at r hz
      obtain ⟨p0, vs0, g0, rfl, e0, _, _, _⟩ := rep_lst hr
      refine ⟨_, hv, .inl ⟨rfl, _, SqL.of e0⟩, bind_te r w p fun d ρ1 u H1 Z1 L1 fp hd r1 w1 h1 F1 p => ?_⟩
      unfold stExt at p
      split at p
      · rename_i xs hx
        split at p
        · rename_i o2 ys
          split at p
          · rename_i hl
            obtain ⟨q, vs, g, f0, f2, hσ, hp, rx, eL, put⟩ := relL_own r1 hx
            rw [hv] at hσ
            cases hσ
            obtain ⟨p2, ws, g2, rfl, e2, ry, _, _⟩ := rep_lst h1
            have len := repL_len rx
            have len2 := repL_len ry
            have ra := repL_append rx (repL_fl ry hl.2)
            rw [List.append_nil] at ra
            have nd := List.nodup_append.mp w1.nd
            show rExtend (.ref p0) [.ref p2] H1 (fun x H1 => T.nx σ H1)
            refine ⟨p0, p2, vs, ws, rfl, rfl, hp, e2, cap_le (by omega), ?_⟩
            have nd2 : g.Nodup := by
              rw [eL] at nd
              exact (List.nodup_cons.mp (List.nodup_append.mp (List.nodup_append.mp nd.2.1).1).2.1).2
            obtain ⟨a, b, c⟩ := own_write w1 r1 hp eL hv put ra (fun a m => .inl m) nd2 F1
            exact p σ _ Z1 _ a b c Pin.refl
          · exact p.elim
        · exact p.elim
      · exact p.elim
    · exact p.elim
/-- x[j] = v -/
def stSub (i : Nat) (fj : Env → Out D) (d : D) (ρ : Env) : Fl := match ρ[i]? with
  | some (some (.n .lst true _)) => (match fj ρ with
    | .ok (.a (.int z)) ρ2 => (match ρ2[i]? with
      | some (some (.n .lst true xs)) => (match ixN xs.length z with
        | some j => .nx (ρ2.set i (some (.lst true (xs.set j d))))
        | none => .st)
      | _ => .st)
    | .ok _ _ => .st
    | .ex e ρ2 => .ex e ρ2
    | .st => .st)
  | _ => .st
theorem ixN_lt {n : Nat} {z : Int} {j : Nat} (h : ixN n z = some j) : j < n := by
  obtain ⟨_, h2, _⟩ := ixN_seq h
  exact h2
theorem ds_sub {i : Nat} {ix : Expr} {fj : Env → Out D} {spos : Pos} (he : DE X cA W f e) (ho : PE X o (tVar i)) (hi : DE X cA W fj ix)
    (hs : swapsWithSole [.Subscript o ix spos] e pos.line X.env = pure false := by kernel_rfl) (hw : swappedStores [.Subscript o ix spos] e X.env = pure none := by kernel_rfl)
    (h1 : (assignEach [.Subscript o ix spos] X.env).map (·.2) = [assign (.Subscript o ix spos) X.env] := by kernel_rfl)
    (ha : ∀ v, assign (.Subscript o ix spos) X.env v = (do
      let ov ← holding [v] (eval o X.env)
      let iv ← holding [v, ov] (eval ix X.env)
      standAt spos
      holding [v, ov, iv] (setItem ov iv v)
      release [v, ov, iv] []) := by intro _; kernel_rfl) : DS X cA W k (dBind f (stSub i fj)) (.Assign [.Subscript o ix spos] e pos) :=
  ds_of (ps_asg he (pg_sub ho hi set_list ha) hs hw h1) fun T σ H Z L ρ r w p => bind_te r w p fun d ρ1 v H1 Z1 L1 fp hd r1 w1 h1 F1 p => by
    unfold stSub at p
    split at p
    · rename_i xs0 hx0
      obtain ⟨q, _, _, _, _, hσ, _, _, _, _⟩ := relL_own r1 hx0
      refine ⟨_, hσ, Z1, L1, ρ1, r1, w1.less (List.sublist_append_right _ _), ?_⟩
      cases hj : fj ρ1 with
      | st => rw [hj] at p; exact p
      | ex e ρ2 =>
        rw [hj] at p
        exact exw (post_es p) (F1.less fun x m => by simp [m])
      | ok d2 ρ2 =>
        rw [hj] at p
        intro u H2 Z2 L2 fp2 r2 w2 h2 F2
        have w12 : Wf H2 Z2 (fp ++ (fp2 ++ L2)) := w1.wait (repD_trk d h1) F2 w2
        have F12 := Fr.wait w1 F1 F2
        have hv2 := repD_wait w1 h1 F2
        cases d2 with
        | n k o xs => exact p.elim
        | a x =>
          cases x with
          | non => exact p.elim
          | bl b => exact p.elim
          | str s => exact p.elim
          | int z =>
            obtain ⟨e1, e2⟩ := h2
            subst e1 e2
            dsimp only at p
            split at p
            · rename_i xs hx
              split at p
              · rename_i j hj2
                obtain ⟨q2, vs, g, f0, f2, hσ2, hp, rx, eL, put⟩ := relL_own r2 hx
                rw [hσ] at hσ2
                cases hσ2
                have len := repL_len rx
                obtain ⟨g0, g2, hsb, rs⟩ := repL_set' rx (ixN_lt hj2) hv2
                refine ⟨q, vs, z, j, rfl, rfl, hp, by rw [len]; exact hj2, ?_⟩
                have nd := List.nodup_append.mp w12.nd
                have ndg : g.Nodup := by
                  have nl : L2.Nodup := by simpa using nd.2.1
                  rw [eL] at nl
                  exact (List.nodup_cons.mp (List.nodup_append.mp (List.nodup_append.mp nl).1).2.1).2
                have nd2 : (g0 ++ fp ++ g2).Nodup := by
                  have pm : (fp ++ (g0 ++ g2)).Perm (g0 ++ fp ++ g2) := by
                    rw [List.append_assoc]; exact List.perm_append_comm_assoc fp g0 g2
                  refine pm.nodup_iff.mp (List.nodup_append.mpr ⟨nd.1, ndg.sublist hsb, fun a ha b hb e => ?_⟩)
                  subst e
                  exact nd.2.2 a ha a (by rw [eL]; simp [hsb.subset hb]) rfl
                obtain ⟨a, b, c⟩ := own_write w12 r2 hp eL hσ put rs (fun a m => by
                  simp only [List.mem_append] at m
                  rcases m with (m | m) | m
                  · exact .inl (hsb.subset (by simp [m]))
                  · exact .inr m
                  · exact .inl (hsb.subset (by simp [m]))) nd2 F12
                exact p σ _ Z2 _ a b c Pin.refl
              · exact p.elim
            · exact p.elim
    · exact p.elim
/-- x[a][b] = v, a and b quiet -/
def stSub2 (i : Nat) (qa qb : Env → Option At) (d : D) (ρ : Env) : Fl := match ρ[i]? with
  | some (some (.n .lst true xs)) => (match qa ρ, qb ρ with
    | some (.int a), some (.int b) => (match ixN xs.length a with
      | some j => (match xs[j]? with
        | some (.n .lst true ys) => (match ixN ys.length b with
          | some l => if isF d = true then .nx (ρ.set i (some (.lst true (xs.set j (.lst true (ys.set l d)))))) else .st
          | none => .st)
        | _ => .st)
      | none => .st)
    | _, _ => .st)
  | _ => .st
theorem ds_sub2 {i : Nat} {ia ib : Expr} {qa qb : Env → Option At} {spos spos2 : Pos} (he : DE X cA W f e) (ho : PE X o (tVar i)) (ha' : DQ X cA qa ia) (hb' : DQ X cA qb ib) (hpl : PlainIx ia := by exact fun _ _ => rfl)
    (hs : swapsWithSole [.Subscript (.Subscript o ia spos2) ib spos] e pos.line X.env = pure false := by kernel_rfl) (hw : swappedStores [.Subscript (.Subscript o ia spos2) ib spos] e X.env = pure none := by kernel_rfl)
    (h1 : (assignEach [.Subscript (.Subscript o ia spos2) ib spos] X.env).map (·.2) = [assign (.Subscript (.Subscript o ia spos2) ib spos) X.env] := by kernel_rfl)
    (ha : ∀ v, assign (.Subscript (.Subscript o ia spos2) ib spos) X.env v = (do
      let ov ← holding [v] (eval (.Subscript o ia spos2) X.env)
      let iv ← holding [v, ov] (eval ib X.env)
      standAt spos
      holding [v, ov, iv] (setItem ov iv v)
      release [v, ov, iv] []) := by intro _; kernel_rfl) : DS X cA W k (dBind f (stSub2 i qa qb)) (.Assign [.Subscript (.Subscript o ia spos2) ib spos] e pos) :=
  ds_of (ps_asg he (pg_sub (pe_ix ix_list ho ha' hpl) hb' set_list ha) hs hw h1) fun T σ H Z L ρ r w p => bind_te r w p fun d ρ1 v H1 Z1 L1 fp hd r1 w1 h1 F1 p => by
    unfold stSub2 at p
    split at p
    · rename_i xs hx
      split at p
      · rename_i a b hqa hqb
        split at p
        · rename_i j hj
          split at p
          · rename_i ys hy
            split at p
            · rename_i l hl
              split at p
              · rename_i hf
                have efp := repD_isF d h1 hf
                subst efp
                obtain ⟨q, vs, g, f0, f2, hσ, hp, rx, eL, put⟩ := relL_own r1 hx
                refine ⟨_, hσ, Z1, L1, ρ1, r1, w1, _, hqa, fun H2 k2 => ?_⟩
                have len := repL_len rx
                obtain ⟨u, g0, gi, g2, hu, hru, eg, putI⟩ := repL_at rx hy
                have hat : atI vs a = some u := by unfold atI; rw [len, hj]; exact hu
                refine ⟨q, vs, a, u, rfl, rfl, SqL.of (k2 q _ hp), hat, ?_⟩
                have r2 := relL_mono (Z' := Z1) (fun _ z => z) (fun a o _ e => k2 a o e) r1
                have w2 : Wf H2 Z1 L1 := ⟨w1.nd, w1.dj, fun a z => let ⟨o, e⟩ := w1.tz a z; ⟨o, k2 a o e⟩⟩
                refine ⟨Z1, L1, ρ1, r2, w2, _, hqb, fun H3 k3 => ?_⟩
                have k13 : ∀ a o, H1 a = some o → H3 a = some o := fun a o e => k3 a o (k2 a o e)
                obtain ⟨pi, wsi, gii, rfl, ei, ryi, e4, _⟩ := rep_lst hru
                rw [if_pos rfl] at e4
                subst e4
                have lenI := repL_len ryi
                refine ⟨pi, wsi, b, l, rfl, rfl, k13 pi _ ei, by rw [lenI]; exact hl, ?_⟩
                -- the inner list is written
                have nd := w1.nd
                simp only [List.nil_append] at nd
                have ndL := nd
                rw [eL, eg] at nd
                have inL : pi ∈ L1 := by rw [eL, eg]; simp
                have piz : ¬ Z1 pi := w1.dj pi (by simpa using inL)
                have nd1 := List.nodup_append.mp nd
                have nd2 := List.nodup_append.mp nd1.1
                have nd3 := List.nodup_cons.mp nd2.2.1
                have nd4 := List.nodup_append.mp nd3.2
                have nd5 := List.nodup_append.mp nd4.1
                have nd6 := List.nodup_cons.mp nd5.2.1
                have pq : pi ≠ q := fun z => nd3.1 (by rw [← z]; simp)
                have pf0 : pi ∉ f0 := fun m => nd2.2.2 pi m pi (by simp) rfl
                have pf2 : pi ∉ f2 := fun m => nd1.2.2 pi (by simp) pi m rfl
                have pg0 : pi ∉ g0 := fun m => nd5.2.2 pi m pi (by simp) rfl
                have pg2 : pi ∉ g2 := fun m => nd4.2.2 pi (by simp) pi m rfl
                obtain ⟨s0, s2, hsb, rs⟩ := repL_set' ryi (ixN_lt hl) h1
                rw [List.append_nil] at rs
                generalize hH4 : upd H3 pi (.lst (wsi.set l v)) = H4
                have kp : ∀ a o, a ≠ pi → H1 a = some o → H4 a = some o := fun a o n e => by rw [← hH4, upd_ne n]; exact k13 a o e
                have h4pi : H4 pi = some (.lst (wsi.set l v)) := by rw [← hH4]; exact upd_same
                have inner : RepD X.K cA H4 Z1 (.lst true (ys.set l d)) (.ref pi) (pi :: (s0 ++ s2)) :=
                  ⟨pi, _, s0 ++ s2, rfl, repL_mono _ (fun _ z => z) (fun a o m e => kp a o (fun z => by
                    subst z
                    rcases m with m | m
                    · exact piz m
                    · exact nd6.1 (hsb.subset m)) e) rs, ⟨h4pi, fun z => nomatch z⟩, rfl, fun z => nomatch z⟩
                have outer := putI (H' := H4) (Z' := Z1) (fun _ z => z) (fun a o m e => kp a o (fun z => by
                  subst z
                  rcases m with m | m | m
                  · exact piz m
                  · exact pg0 m
                  · exact pg2 m) e) inner
                have whole : RepD X.K cA H4 Z1 (.lst true (xs.set j (.lst true (ys.set l d)))) (.ref q) (q :: (g0 ++ (pi :: (s0 ++ s2)) ++ g2)) :=
                  ⟨q, vs, _, rfl, outer, ⟨kp q _ (Ne.symm pq) hp, fun z => nomatch z⟩, rfl, fun z => nomatch z⟩
                have rfin := put (H' := H4) (Z' := Z1) (fun _ z => z) (fun a o m e => kp a o (fun z => by
                  subst z
                  rcases m with m | m | m
                  · exact piz m
                  · exact pf0 m
                  · exact pf2 m) e) whole
                rw [set_same hσ] at rfin
                have sb : (f0 ++ (q :: (g0 ++ (pi :: (s0 ++ s2)) ++ g2)) ++ f2).Sublist L1 := by
                  rw [eL, eg]
                  refine List.Sublist.append (List.Sublist.append (List.Sublist.refl _) (List.Sublist.cons_cons q (List.Sublist.append (List.Sublist.append (List.Sublist.refl _) (List.Sublist.cons_cons pi hsb)) (List.Sublist.refl _)))) (List.Sublist.refl _)
                refine p σ H4 Z1 _ rfin ⟨ndL.sublist sb, fun a m => w1.dj a (by simpa using sb.subset m), fun a z => ?_⟩ ⟨fun a o e n => ?_, F1.zm, F1.zs, fun a m => F1.ls a (by simpa using sb.subset m)⟩ Pin.refl
                · obtain ⟨o, e⟩ := w1.tz a z
                  by_cases h : a = pi
                  · subst h; exact absurd z piz
                  · exact ⟨o, kp a o h e⟩
                · have e1 := F1.keep a o e n
                  by_cases h : a = pi
                  · subst h
                    rcases F1.ls a (by simpa using inL) with z | z
                    · exact absurd z n
                    · rw [z] at e; cases e
                  · exact kp a o h e1
              · exact p.elim
            · exact p.elim
          · exact p.elim
        · exact p.elim
      · exact p.elim
    · exact p.elim
end
end DL
namespace DL
open PySem L2

/-! ### what a loop walks -/
def ItOf (K : PySem.W.Frag) (cA : Str → Addr) (J : It) (ds : List D) (H0 : Hp) (Z0 : ZS) : Prop :=
  ∀ i H Z1, (∀ a, Z0 a → Z1 a) → (∀ a o, Z0 a → H0 a = some o → H a = some o) → Wf H Z1 [] →
    (∀ d, ds[i]? = some d → J.go i H ∧ ∀ x H', J.yld i H x H' → ∃ Z2, Fr H Z1 [] H' Z2 [] ∧ Wf H' Z2 [] ∧ RepD K cA H' Z2 d x []) ∧ (ds.length ≤ i → J.stop i H)
section
variable (K : PySem.W.Frag) (cA : Str → Addr)
def PostI (W : WX) (σ : L2.St) (H : Hp) (Z : ZS) (L : FP) (R : It → Hp → Prop) : Out (List D) → Prop
  | .ok ds ρ' => ∀ J H' Z' L', RelL K cA H' Z' ρ' σ L' → Wf H' Z' L' → Fr H Z L H' Z' L' → ItOf K cA J ds H' Z' → R J H'
  | .ex e ρ' => ∀ cls d H' Z' L', RelL K cA H' Z' ρ' σ L' → Wf H' Z' L' → ExR cA H' Z' e cls d → Fr H Z L H' Z' L' → W cls d σ H'
  | .st => False
def TIof (W : WX) (f : Env → Out (List D)) : TI := fun σ H R => ∃ Z L ρ, RelL K cA H Z ρ σ L ∧ Wf H Z L ∧ PostI K cA W σ H Z L R (f ρ)
end
def DI (X : Cx) (cA : Str → Addr) (W : WX) (f : Env → Out (List D)) (tg iter : Expr) : Prop := PI X tg iter (TIof X.K cA W f)
theorem PI.imp {X : Cx} {tg iter : Expr} {t t' : TI} (h : PI X tg iter t) (i : ∀ σ H R, t' σ H R → t σ H R) : PI X tg iter t' := ⟨fun pins s σ H R I w => h.run pins s σ H R I (i σ H R w)⟩
theorem pi_or {X : Cx} {tg iter : Expr} {t t' : TI} (h : PI X tg iter t) (h' : PI X tg iter t') : PI X tg iter (fun σ H R => t σ H R ∨ t' σ H R) := ⟨fun pins s σ H R I w => by
  rcases w with w | w
  · exact h.run pins s σ H R I w
  · exact h'.run pins s σ H R I w⟩
section
variable {K : PySem.W.Frag} {cA : Str → Addr}
theorem rd_keep {H H' : Hp} {Z : ZS} {p : Addr} {u : HO} (z : Z p) (k : ∀ a o, Z a → H a = some o → H' a = some o) (r : Rd H p u) : Rd H' p u := rd_mono (fun o e => k p o z e) r
/-- a frozen list, a tuple, intL, the signs of a text -/
theorem it_list {H0 : Hp} {Z0 : ZS} {p : Addr} {vs : List V} {xs : List D} (z : Z0 p) (e : H0 p = some (.lst vs)) (r : RepL K cA H0 Z0 xs vs []) : ItOf K cA (Itl K p) xs H0 Z0 := by
  intro i H Z1 hz hk w
  have e1 := hk p _ z e
  have r1 : RepL K cA H Z1 xs vs [] := repL_mono xs hz (fun a o m e => by
    rcases m with m | m
    · exact hk a o m e
    · cases m) r
  refine ⟨fun d hd => ?_, fun hl => ⟨vs, SqL.of e1, by rw [repL_len r]; exact hl⟩⟩
  obtain ⟨v, f0, f1, f2, hv, hr, ef⟩ := repL_get r1 hd
  have e2 : f1 = [] := by
    have := congrArg List.length ef
    simp at this
    exact List.eq_nil_of_length_eq_zero (by omega)
  subst e2
  refine ⟨⟨vs, v, SqL.of e1, hv⟩, fun x H' y => ?_⟩
  obtain ⟨e3, y⟩ := y
  subst e3
  have := y vs (SqL.of e1)
  rw [hv] at this
  cases this
  exact ⟨Z1, Fr.refl, w, hr⟩
theorem it_tup {H0 : Hp} {Z0 : ZS} {p : Addr} {vs : List V} {xs : List D} (c : (Z0 p ∧ Rd H0 p (.tup vs)) ∨ KT K p vs) (r : RepL K cA H0 Z0 xs vs []) : ItOf K cA (Itt K p) xs H0 Z0 := by
  intro i H Z1 hz hk w
  have e1 : SqT K H p vs := by
    rcases c with ⟨z, q⟩ | q
    · exact .inl (rd_keep z hk q)
    · exact .inr q
  have r1 : RepL K cA H Z1 xs vs [] := repL_mono xs hz (fun a o m e => by
    rcases m with m | m
    · exact hk a o m e
    · cases m) r
  refine ⟨fun d hd => ?_, fun hl => ⟨vs, e1, by rw [repL_len r]; exact hl⟩⟩
  obtain ⟨v, f0, f1, f2, hv, hr, ef⟩ := repL_get r1 hd
  have e2 : f1 = [] := by
    have := congrArg List.length ef
    simp at this
    exact List.eq_nil_of_length_eq_zero (by omega)
  subst e2
  refine ⟨⟨vs, v, e1, hv⟩, fun x H' y => ?_⟩
  obtain ⟨e3, y⟩ := y
  subst e3
  have := y vs e1
  rw [hv] at this
  cases this
  exact ⟨Z1, Fr.refl, w, hr⟩
def intL (lo : Int) (n : Nat) : List D := (List.range n).map fun (i : Nat) => D.int (lo + (i : Int))
theorem intL_len (lo : Int) (n : Nat) : (intL lo n).length = n := by simp [intL]
theorem it_rng {H0 : Hp} {Z0 : ZS} {lo : Int} {n : Nat} : ItOf K cA (Itr lo n) (intL lo n) H0 Z0 := by
  intro i H Z1 hz hk w
  refine ⟨fun d hd => ?_, fun hl => by rw [intL_len] at hl; exact hl⟩
  have hi : i < n := by
    have := (List.getElem?_eq_some_iff.mp hd).1
    rw [intL_len] at this; exact this
  refine ⟨hi, fun x H' y => ?_⟩
  obtain ⟨e1, e2⟩ := y
  subst e1 e2
  have : d = .int (lo + i) := by
    simp [intL, hi] at hd
    exact hd.symm
  subst this
  exact ⟨Z1, Fr.refl, w, rfl, rfl⟩
def intsC (lo c : Int) (n : Nat) : List D := (List.range n).map fun (i : Nat) => D.int (lo + (i : Int) * c)
theorem it_rngC {H0 : Hp} {Z0 : ZS} {lo c : Int} {n : Nat} : ItOf K cA (Itc lo c n) (intsC lo c n) H0 Z0 := by
  intro i H Z1 hz hk w
  refine ⟨fun d hd => ?_, fun hl => by simp [intsC] at hl; exact hl⟩
  have hi : i < n := by
    have := (List.getElem?_eq_some_iff.mp hd).1
    simp [intsC] at this; exact this
  refine ⟨hi, fun x H' y => ?_⟩
  obtain ⟨e1, e2⟩ := y
  subst e1 e2
  have : d = .int (lo + (i : Int) * c) := by
    simp [intsC, hi] at hd
    exact hd.symm
  subst this
  exact ⟨Z1, Fr.refl, w, rfl, rfl⟩
def signs (s : Str) : List D := s.cps.toList.map fun c => .str ⟨#[c]⟩
theorem it_str {H0 : Hp} {Z0 : ZS} {s : Str} : ItOf K cA (Its s) (signs s) H0 Z0 := by
  intro i H Z1 hz hk w
  refine ⟨fun d hd => ?_, fun hl => by
    have : s.cps.size ≤ i := by simpa [signs] using hl
    exact this⟩
  have hd' : (s.cps.toList[i]?).map (fun c => D.str ⟨#[c]⟩) = some d := by rw [← hd]; simp [signs]
  cases hc : s.cps.toList[i]? with
  | none => rw [hc] at hd'; cases hd'
  | some c =>
    rw [hc] at hd'
    cases hd'
    have hc' : s.cps[i]? = some c := by simpa using hc
    refine ⟨(Array.getElem?_eq_some_iff.mp hc').1, fun x H' y => ?_⟩
    obtain ⟨e1, c', e2, e3⟩ := y
    subst e1
    rw [hc'] at e2
    cases e2
    subst e3
    exact ⟨Z1, Fr.refl, w, rfl, rfl⟩
end
/-- the items of a value (frozen) -/
def itemsOf : D → Option (List D)
  | .n .lst _ xs => if xs.length ≤ cap then some xs else none
  | .n .tup _ xs => if xs.length ≤ cap then some xs else none
  | .a (.str s) => if s.length ≤ cap then some (signs s) else none
  | _ => none
def dIter (f : Env → Out D) : Env → Out (List D) := fun ρ => match f ρ with
  | .ok d ρ1 => (match itemsOf d with
    | some xs => if isF d = true then .ok xs ρ1 else .st
    | none => .st)
  | .ex e ρ1 => .ex e ρ1
  | .st => .st
def dRng1 (f : Env → Out D) : Env → Out (List D) := fun ρ => match f ρ with
  | .ok (.a (.int j)) ρ1 => if -1000000 ≤ j ∧ j ≤ 1000000 then .ok (intL 0 j.toNat) ρ1 else .st
  | .ok _ _ => .st
  | .ex e ρ1 => .ex e ρ1
  | .st => .st
def dRng2 (f g : Env → Out D) : Env → Out (List D) := fun ρ => match f ρ with
  | .ok (.a (.int i)) ρ1 => (match g ρ1 with
    | .ok (.a (.int j)) ρ2 => if (-1000000 ≤ i ∧ i ≤ 1000000) ∧ -1000000 ≤ j ∧ j ≤ 1000000 then .ok (intL i (j - i).toNat) ρ2 else .st
    | .ok _ _ => .st
    | .ex e ρ2 => .ex e ρ2
    | .st => .st)
  | .ok _ _ => .st
  | .ex e ρ1 => .ex e ρ1
  | .st => .st
section
variable {X : Cx} {cA : Str → Addr} {W : WX} {f g : Env → Out D} {e e2 tg : Expr} {p pos : Pos}
theorem di_of (he : DE X cA W f e) : DI X cA W (dIter f) tg e :=
  PI.imp (pi_or (pi_list he) (pi_or (pi_tup he) (pi_str he))) fun σ H R ⟨Z, L, ρ, r, w, q⟩ => by
    unfold dIter at q
    cases hf : f ρ with
    | st => rw [hf] at q; exact q.elim
    | ex e ρ1 =>
      rw [hf] at q
      exact .inl ⟨Z, L, ρ, r, w, by rw [hf]; exact q⟩
    | ok d ρ1 =>
      rw [hf] at q
      dsimp only at q
      split at q
      · rename_i xs hx
        split at q
        · rename_i hF
          unfold itemsOf at hx
          split at hx
          · rename_i o ys
            split at hx
            · cases hx
              refine .inl ⟨Z, L, ρ, r, w, ?_⟩
              rw [hf]
              intro v H1 Z1 L1 fp r1 w1 h1 F1
              have efp := repD_isF _ h1 hF
              subst efp
              have ho : o = false := by
                have : (!o && isFL xs) = true := hF
                simp at this; exact this.1
              subst ho
              obtain ⟨q0, vs, g, rfl, e1, rr, _, zz⟩ := rep_lst h1
              obtain ⟨z1, z2⟩ := zz rfl
              subst z2
              exact ⟨q0, rfl, ⟨vs, SqL.of e1⟩, q _ H1 Z1 L1 r1 w1 F1 (it_list z1 e1 rr)⟩
            · cases hx
          · rename_i o ys
            split at hx
            · cases hx
              refine .inr (.inl ⟨Z, L, ρ, r, w, ?_⟩)
              rw [hf]
              intro v H1 Z1 L1 fp r1 w1 h1 F1
              obtain ⟨q0, vs, rfl, e1, rr, rfl, _, cc⟩ := rep_tup h1
              exact ⟨q0, rfl, ⟨vs, e1⟩, q _ H1 Z1 L1 r1 w1 F1 (it_tup cc rr)⟩
            · cases hx
          · rename_i s
            split at hx
            · cases hx
              refine .inr (.inr ⟨Z, L, ρ, r, w, ?_⟩)
              rw [hf]
              intro v H1 Z1 L1 fp r1 w1 h1 F1
              obtain ⟨e1, e2⟩ := h1
              subst e1 e2
              exact ⟨s, rfl, q _ H1 Z1 L1 r1 w1 F1 it_str⟩
            · cases hx
          · cases hx
        · exact q.elim
      · exact q.elim
/-- an int argument -/
theorem post_int {K : PySem.W.Frag} {σ : L2.St} {H : Hp} {Z : ZS} {L : FP} {ρ : Env} {Q : VK} (r : RelL K cA H Z ρ σ L) (w : Wf H Z L)
    (h : match f ρ with
      | .ok (.a (.int i)) ρ1 => ∀ H1 Z1 L1, RelL K cA H1 Z1 ρ1 σ L1 → Wf H1 Z1 L1 → Fr H Z L H1 Z1 L1 → Q (.int i) H1
      | .ok _ _ => False
      | .ex e ρ1 => ∀ cls d H' Z' L', RelL K cA H' Z' ρ1 σ L' → Wf H' Z' L' → ExR cA H' Z' e cls d → Fr H Z L H' Z' L' → W cls d σ H'
      | .st => False) : TEof K cA W f σ H Q := by
  refine ⟨Z, L, ρ, r, w, ?_⟩
  cases hf : f ρ with
  | st => rw [hf] at h; exact h
  | ex e ρ1 => rw [hf] at h; exact h
  | ok d ρ1 =>
    rw [hf] at h
    intro v H1 Z1 L1 fp r1 w1 h1 F1
    cases d with
    | n k o xs => exact h.elim
    | a x =>
      cases x with
      | non => exact h.elim
      | bl b => exact h.elim
      | str s => exact h.elim
      | int i =>
        obtain ⟨e1, e2⟩ := h1
        subst e1 e2
        exact h H1 Z1 L1 r1 w1 F1
theorem di_rng1 (hg : Gl X "range") (hm : X.mg "range" = none) (he : DE X cA W f e) (hs : starEach [e] X.env = [(false, eval e X.env)] := by kernel_rfl) : DI X cA W (dRng1 f) tg (.Call (.Name "range" p) [e] [] pos) :=
  PI.imp (pi_range1 hg hm (pa_cons he pa_nil hs) hs) fun σ H R ⟨Z, L, ρ, r, w, q⟩ => by
    refine post_int r w ?_
    unfold dRng1 at q
    cases hf : f ρ with
    | st => rw [hf] at q; exact q
    | ex e ρ1 => rw [hf] at q; exact q
    | ok d ρ1 =>
      rw [hf] at q
      cases d with
      | n k o xs => exact q.elim
      | a x =>
        cases x with
        | non => exact q.elim
        | bl b => exact q.elim
        | str s => exact q.elim
        | int i =>
          dsimp only at q
          split at q
          · rename_i hi
            intro H1 Z1 L1 r1 w1 F1
            exact ⟨i, rfl, by omega, by omega, q _ H1 Z1 L1 r1 w1 F1 it_rng⟩
          · exact q.elim
theorem di_rng2 (hg : Gl X "range") (hm : X.mg "range" = none) (he : DE X cA W f e) (he2 : DE X cA W g e2) (hs : starEach [e, e2] X.env = [(false, eval e X.env), (false, eval e2 X.env)] := by kernel_rfl) (hs2 : starEach [e2] X.env = [(false, eval e2 X.env)] := by kernel_rfl) :
    DI X cA W (dRng2 f g) tg (.Call (.Name "range" p) [e, e2] [] pos) :=
  PI.imp (pi_range2 hg hm (pa_cons he (pa_cons he2 pa_nil hs2) (by rw [hs, hs2])) hs hs2) fun σ H R ⟨Z, L, ρ, r, w, q⟩ => by
    refine post_int r w ?_
    unfold dRng2 at q
    cases hf : f ρ with
    | st => rw [hf] at q; exact q
    | ex e ρ1 => rw [hf] at q; exact q
    | ok d ρ1 =>
      rw [hf] at q
      cases d with
      | n k o xs => exact q.elim
      | a x =>
        cases x with
        | non => exact q.elim
        | bl b => exact q.elim
        | str s => exact q.elim
        | int i =>
          dsimp only at q
          intro H1 Z1 L1 r1 w1 F1
          refine post_int r1 w1 ?_
          cases hg : g ρ1 with
          | st => rw [hg] at q; exact q
          | ex e ρ2 => rw [hg] at q; exact exw q F1
          | ok d ρ2 =>
            rw [hg] at q
            cases d with
            | n k o xs => exact q.elim
            | a x =>
              cases x with
              | non => exact q.elim
              | bl b => exact q.elim
              | str s => exact q.elim
              | int j =>
                dsimp only at q
                split at q
                · rename_i hi
                  intro H2 Z2 L2 r2 w2 F2
                  exact ⟨i, j, rfl, ⟨by omega, by omega, by omega, by omega⟩, q _ H2 Z2 L2 r2 w2 (F1.trans F2) it_rng⟩
                · exact q.elim
end

/-! ### for -/
def forL (g : D → Env → Option Env) (b : Env → Fl) : List D → Env → Fl
  | [], ρ => .nx ρ
  | d :: ds, ρ => match g d ρ with
    | none => .st
    | some ρ1 => match b ρ1 with
      | .nx ρ2 => forL g b ds ρ2
      | .ct ρ2 => forL g b ds ρ2
      | .bk ρ2 => .nx ρ2
      | .rt d ρ2 => .rt d ρ2
      | .ex e ρ2 => .ex e ρ2
      | .st => .st
def dFor (src : Env → Out (List D)) (g : D → Env → Option Env) (b : Env → Fl) : Env → Fl := fun ρ => match src ρ with
  | .ok ds ρ1 => forL g b ds ρ1
  | .ex e ρ1 => .ex e ρ1
  | .st => .st
theorem drop_cons' {α : Type} {l : List α} {i : Nat} {d : α} (h : l[i]? = some d) : l.drop i = d :: l.drop (i + 1) := by
  obtain ⟨h1, h2⟩ := List.getElem?_eq_some_iff.mp h
  rw [List.drop_eq_getElem_cons h1, h2]
section
variable {X : Cx} {cA : Str → Addr} {W : WX} {k : Option Nat} {src : Env → Out (List D)} {ts : List Nat} {g : D → Env → Option Env} {b : Env → Fl} {iter tg : Expr} {body : List Stmt} {pos : Pos}
/-- an iterator's turn, the slots waiting -/
theorem it_turn {K : PySem.W.Frag} {J : It} {ds : List D} {H0 H : Hp} {Z0 Z : ZS} {L0 L : FP} {ρ : Env} {σ : L2.St} (hi : ItOf K cA J ds H0 Z0) (w0 : Wf H0 Z0 L0) (F : Fr H0 Z0 L0 H Z L) (r : RelL K cA H Z ρ σ L) (w : Wf H Z L) (i : Nat) :
    (∀ d, ds[i]? = some d → J.go i H ∧ ∀ x H', J.yld i H x H' → ∃ Z2, RelL K cA H' Z2 ρ σ L ∧ Wf H' Z2 L ∧ Fr H Z L H' Z2 L ∧ RepD K cA H' Z2 d x []) ∧ (ds.length ≤ i → J.stop i H) := by
  obtain ⟨a, b⟩ := hi i H Z F.zm (fun a o z e => F.keep a o e fun m => w0.dj a m z) (wf0 w)
  refine ⟨fun d hd => ⟨(a d hd).1, fun x H' y => ?_⟩, b⟩
  obtain ⟨Z2, F2, w2, h2⟩ := (a d hd).2 x H' y
  obtain ⟨r3, w3, F3⟩ := hand0 w r F2 w2
  exact ⟨Z2, r3, w3, F3, h2⟩
theorem ds_for (hp : PassesOwn (model X.prog X.w) X.A X.env X.xe) (hc : X.calm = true) (hi : DI X cA W src tg iter) (hg : DG X cA ts g tg) (hb : DSs X cA W k b body) (hk : ∀ i, k = some i → i ∉ ts)
    (hs : ∀ x, foldedSetIterable iter X.env x = pure x := by intro _; kernel_rfl) : DS X cA W k (dFor src g b) (.For tg iter body [] pos) := ds_of (L2.ps_for hp hc hi hg hb hs) fun T σ H Z L ρ r w p => by
  refine ⟨Z, L, ρ, r, w, ?_⟩
  unfold dFor at p
  cases hsrc : src ρ with
  | st => rw [hsrc] at p; exact p
  | ex e ρ1 => rw [hsrc] at p; exact post_es p
  | ok ds ρ1 =>
    rw [hsrc] at p
    intro J H1 Z1 L1 r1 w1 F1 hit
    refine ⟨fun i m σi Hi => m = ds.length - i ∧ i ≤ ds.length ∧ ∃ Zi Li ρi, RelL X.K cA Hi Zi ρi σi Li ∧ Wf Hi Zi Li ∧ Fr H1 Z1 L1 Hi Zi Li ∧ Pin k σ σi ∧ PostS X.K cA W k σ H Z L T (forL g b (ds.drop i) ρi), ⟨_, rfl, Nat.zero_le _, Z1, L1, ρ1, r1, w1, Fr.refl, Pin.refl, p⟩, ?_⟩
    rintro i m σi Hi ⟨rfl, hil, Zi, Li, ρi, ri, wi, Fi, pi, qi⟩
    obtain ⟨tn, stp⟩ := it_turn hit w1 Fi ri wi i
    cases hd : ds[i]? with
    | none =>
      left
      have hl : ds.length ≤ i := List.getElem?_eq_none_iff.mp hd
      refine ⟨stp hl, ?_⟩
      rw [List.drop_eq_nil_of_le hl] at qi
      exact qi σi Hi Zi Li ri wi (F1.trans Fi) pi
    | some d =>
      right
      obtain ⟨go, yl⟩ := tn d hd
      have hlt : i < ds.length := (List.getElem?_eq_some_iff.mp hd).1
      rw [drop_cons' hd] at qi
      unfold forL at qi
      refine ⟨go, fun σ' H' => ∃ Z' L' ρ', RelL X.K cA H' Z' ρ' σ' L' ∧ Wf H' Z' L' ∧ Fr H1 Z1 L1 H' Z' L' ∧ Pin k σ σ' ∧ PostS X.K cA W k σ H Z L T (forL g b (ds.drop (i + 1)) ρ'), ?_, fun x H' y => ?_⟩
      · rintro σ' H' ⟨Z', L', ρ', a1, a2, a3, a4, a5⟩
        exact ⟨ds.length - (i + 1), by omega, rfl, hlt, Z', L', ρ', a1, a2, a3, a4, a5⟩
      · obtain ⟨Z2, r2, w2, F2, h2⟩ := yl x H' y
        cases hgd : g d ρi with
        | none => rw [hgd] at qi; exact qi.elim
        | some ρa =>
          rw [hgd] at qi
          refine ⟨d, Z2, Li, ρi, ρa, r2, w2, h2, hgd, fun σa Ha Za La ra wa Fa ba => ?_⟩
          have FA : Fr H1 Z1 L1 Ha Za La := (Fi.trans F2).trans Fa
          have pA : Pin k σ σa := pi.trans (ba.pin hk)
          refine ⟨Za, La, ρa, ra, wa, ?_⟩
          dsimp only at qi
          cases hbo : b ρa with
          | st => rw [hbo] at qi; exact qi
          | nx ρ2 => rw [hbo] at qi; exact fun σ' H' Z' L' a1 a2 a3 a4 => ⟨Z', L', ρ2, a1, a2, FA.trans a3, pA.trans a4, qi⟩
          | ct ρ2 => rw [hbo] at qi; exact fun σ' H' Z' L' a1 a2 a3 a4 => ⟨Z', L', ρ2, a1, a2, FA.trans a3, pA.trans a4, qi⟩
          | bk ρ2 => rw [hbo] at qi; exact fun σ' H' Z' L' a1 a2 a3 a4 => qi σ' H' Z' L' a1 a2 ((F1.trans FA).trans a3) (pA.trans a4)
          | rt d ρ2 => rw [hbo] at qi; exact fun v σ' H' Z' L' fp a1 a2 a3 a4 a5 => qi v σ' H' Z' L' fp a1 a2 a3 ((F1.trans FA).trans a4) (pA.trans a5)
          | ex e ρ2 => rw [hbo] at qi; exact fun cls d σ' H' Z' L' a1 a2 a3 a4 a5 => qi cls d σ' H' Z' L' a1 a2 a3 ((F1.trans FA).trans a4) (pA.trans a5)
end

/-! ### while -/
def whL (t : Env → Out Bool) (b : Env → Fl) : Nat → Env → Fl
  | 0, _ => .st
  | m + 1, ρ => match t ρ with
    | .ok false ρ1 => .nx ρ1
    | .ok true ρ1 => (match b ρ1 with
      | .nx ρ2 => whL t b m ρ2
      | .ct ρ2 => whL t b m ρ2
      | .bk ρ2 => .nx ρ2
      | .rt d ρ2 => .rt d ρ2
      | .ex e ρ2 => .ex e ρ2
      | .st => .st)
    | .ex e ρ1 => .ex e ρ1
    | .st => .st
section
variable {X : Cx} {cA : Str → Addr} {W : WX} {k : Option Nat} {t : Env → Out Bool} {b : Env → Fl} {c : Expr} {body : List Stmt} {pos : Pos}
theorem ds_while (m0 : Nat) (hp : PassesOwn (model X.prog X.w) X.A X.env X.xe) (hc : DT X cA W t c) (hb : DSs X cA W k b body) : DS X cA W k (whL t b m0) (.While c body [] pos) := ds_of (L2.ps_while hp hc hb) fun T σ H Z L ρ r w p => by
  refine ⟨fun m σi Hi => ∃ Zi Li ρi, RelL X.K cA Hi Zi ρi σi Li ∧ Wf Hi Zi Li ∧ Fr H Z L Hi Zi Li ∧ Pin k σ σi ∧ PostS X.K cA W k σ H Z L T (whL t b m ρi), ⟨m0, Z, L, ρ, r, w, Fr.refl, Pin.refl, p⟩, ?_⟩
  rintro m σi Hi ⟨Zi, Li, ρi, ri, wi, Fi, pi, qi⟩
  cases m with
  | zero => exact qi.elim
  | succ m =>
    unfold whL at qi
    refine ⟨Zi, Li, ρi, ri, wi, ?_⟩
    cases ht : t ρi with
    | st => rw [ht] at qi; exact qi
    | ex e ρ1 => rw [ht] at qi; exact fun cls d H' Z' L' a1 a2 a3 a4 => qi cls d σi H' Z' L' a1 a2 a3 (Fi.trans a4) pi
    | ok v ρ1 =>
      rw [ht] at qi
      intro Ha Za La ra wa Fa
      have FA := Fi.trans Fa
      cases v with
      | false => exact qi σi Ha Za La ra wa FA pi
      | true =>
        rw [if_pos rfl]
        refine ⟨fun σ' H' => ∃ Z' L' ρ', RelL X.K cA H' Z' ρ' σ' L' ∧ Wf H' Z' L' ∧ Fr H Z L H' Z' L' ∧ Pin k σ σ' ∧ PostS X.K cA W k σ H Z L T (whL t b m ρ'), fun σ' H' q => ⟨m, Nat.lt_succ_self _, q⟩, Za, La, ρ1, ra, wa, ?_⟩
        dsimp only at qi
        cases hbo : b ρ1 with
        | st => rw [hbo] at qi; exact qi
        | nx ρ2 => rw [hbo] at qi; exact fun σ' H' Z' L' a1 a2 a3 a4 => ⟨Z', L', ρ2, a1, a2, FA.trans a3, pi.trans a4, qi⟩
        | ct ρ2 => rw [hbo] at qi; exact fun σ' H' Z' L' a1 a2 a3 a4 => ⟨Z', L', ρ2, a1, a2, FA.trans a3, pi.trans a4, qi⟩
        | bk ρ2 => rw [hbo] at qi; exact fun σ' H' Z' L' a1 a2 a3 a4 => qi σ' H' Z' L' a1 a2 (FA.trans a3) (pi.trans a4)
        | rt d ρ2 => rw [hbo] at qi; exact fun v σ' H' Z' L' fp a1 a2 a3 a4 a5 => qi v σ' H' Z' L' fp a1 a2 a3 (FA.trans a4) (pi.trans a5)
        | ex e ρ2 => rw [hbo] at qi; exact fun cls d σ' H' Z' L' a1 a2 a3 a4 a5 => qi cls d σ' H' Z' L' a1 a2 a3 (FA.trans a4) (pi.trans a5)
end
end DL
namespace DL
open PySem L2

/-! ### comprehensions -/
def wipeE (ρ : Env) : List Nat → Env
  | [] => ρ
  | v :: vs => (wipeE ρ vs).set v none
/-- the outer names of the block's own come back -/
def backE (ρ1 : Env) : List Nat → Env → Env
  | [], ρ => ρ
  | v :: vs, ρ => match ρ1[v]? with
    | some (some d) => if isF d = true ∧ v < (backE ρ1 vs ρ).length then (backE ρ1 vs ρ).set v (some d) else backE ρ1 vs ρ
    | _ => backE ρ1 vs ρ
section
variable {K : PySem.W.Frag} {cA : Str → Addr} {H : Hp} {Z : ZS}
theorem relL_cong : ∀ {ρ : Env} {σ σ' : L2.St} {L : FP}, RelL K cA H Z ρ σ L → σ'.length = σ.length → (∀ (i : Nat) (d : D), ρ[i]? = some (some d) → σ'[i]? = σ[i]?) → RelL K cA H Z ρ σ' L
  | [], σ, σ', L, h, hl, _ => by
    have e := h.1
    subst e
    have : σ' = [] := List.eq_nil_of_length_eq_zero (by simpa using hl)
    subst this
    exact h
  | none :: ρ, σ, σ', L, h, hl, hs => by
    obtain ⟨x, σ1, e, r⟩ := h
    subst e
    cases σ' with
    | nil => simp at hl
    | cons y σ2 => exact ⟨y, σ2, rfl, relL_cong r (by simpa using hl) fun i d e => by simpa using hs (i + 1) d (by simpa using e)⟩
  | some d :: ρ, σ, σ', L, h, hl, hs => by
    obtain ⟨v, σ1, f1, f2, e, h1, h2, ef⟩ := h
    subst e
    cases σ' with
    | nil => simp at hl
    | cons y σ2 =>
      have h0 := hs 0 d rfl
      simp at h0
      subst h0
      exact ⟨v, σ2, f1, f2, rfl, h1, relL_cong h2 (by simpa using hl) fun i d e => by simpa using hs (i + 1) d (by simpa using e), ef⟩
theorem relL_none : ∀ {ρ : Env} {σ : L2.St} {L : FP} (i : Nat), RelL K cA H Z ρ σ L → ∃ L', L'.Sublist L ∧ RelL K cA H Z (ρ.set i none) σ L'
  | [], σ, L, i, h => ⟨L, List.Sublist.refl _, by simpa using h⟩
  | none :: ρ, σ, L, 0, h => ⟨L, List.Sublist.refl _, h⟩
  | some d :: ρ, σ, L, 0, h => by
    obtain ⟨v, σ1, f1, f2, e, h1, h2, ef⟩ := h
    subst ef
    exact ⟨f2, List.sublist_append_right _ _, some v, σ1, e, h2⟩
  | none :: ρ, σ, L, i + 1, h => by
    obtain ⟨x, σ1, e, r⟩ := h
    obtain ⟨L', hs, q⟩ := relL_none i r
    exact ⟨L', hs, x, σ1, e, q⟩
  | some d :: ρ, σ, L, i + 1, h => by
    obtain ⟨v, σ1, f1, f2, e, h1, h2, ef⟩ := h
    subst ef
    obtain ⟨L', hs, q⟩ := relL_none i h2
    exact ⟨f1 ++ L', (List.Sublist.refl f1).append hs, v, σ1, f1, L', e, h1, q, rfl⟩
theorem wipeE_len (ρ : Env) : ∀ vs, (wipeE ρ vs).length = ρ.length
  | [] => rfl
  | v :: vs => by unfold wipeE; rw [List.length_set, wipeE_len ρ vs]
theorem wipeE_some {ρ : Env} {i : Nat} {d : D} : ∀ {vs : List Nat}, (wipeE ρ vs)[i]? = some (some d) → i ∉ vs ∧ ρ[i]? = some (some d)
  | [], h => ⟨by simp, h⟩
  | v :: vs, h => by
    unfold wipeE at h
    by_cases e : v = i
    · subst e
      by_cases hl : v < (wipeE ρ vs).length
      · rw [List.getElem?_set_self hl] at h; cases h
      · rw [List.getElem?_eq_none (by rw [List.length_set]; omega)] at h; cases h
    · rw [List.getElem?_set_ne e] at h
      obtain ⟨h1, h2⟩ := wipeE_some h
      exact ⟨by simp only [List.mem_cons, not_or]; exact ⟨fun z => e z.symm, h1⟩, h2⟩
theorem relL_wipe {ρ : Env} {σ : L2.St} {L : FP} (h : RelL K cA H Z ρ σ L) (vs : List Nat) : ∃ L', L'.Sublist L ∧ RelL K cA H Z (wipeE ρ vs) (wipe σ vs) L' := by
  have key : ∀ vs, ∃ L', L'.Sublist L ∧ RelL K cA H Z (wipeE ρ vs) σ L' := by
    intro vs
    induction vs with
    | nil => exact ⟨L, List.Sublist.refl _, h⟩
    | cons v vs ih =>
      obtain ⟨L1, s1, r1⟩ := ih
      obtain ⟨L2, s2, r2⟩ := relL_none v r1
      exact ⟨L2, s2.trans s1, r2⟩
  obtain ⟨L', hs, r⟩ := key vs
  refine ⟨L', hs, relL_cong r (wipe_length σ vs) fun i d e => ?_⟩
  exact wipe_out (wipeE_some e).1
/-- behind the block: σ as it was -/
theorem relL_back {H1 : Hp} {Z1 : ZS} {ρ1 ρ : Env} {σ : L2.St} {L1 L : FP} (r1 : RelL K cA H1 Z1 ρ1 σ L1) (hz : ∀ a, Z1 a → Z a) (hk : ∀ a o, Z1 a → H1 a = some o → H a = some o) : ∀ vs : List Nat, RelL K cA H Z (wipeE ρ vs) (wipe σ vs) L →
    ∃ L', L'.Sublist L ∧ RelL K cA H Z (backE ρ1 vs (wipeE ρ vs)) σ L' := by
  intro vs h
  have h0 : RelL K cA H Z (wipeE ρ vs) σ L := relL_cong h (wipe_length σ vs).symm fun i d e => (wipe_out (wipeE_some e).1).symm
  generalize wipeE ρ vs = ρw at h0
  clear h
  induction vs with
  | nil => exact ⟨L, List.Sublist.refl _, h0⟩
  | cons v vs ih =>
    obtain ⟨L', hs, r⟩ := ih
    unfold backE
    split
    · rename_i d hd
      split
      · rename_i hc
        obtain ⟨u, f0, f1, f2, hu, hr, ef, _, _⟩ := relL_at r1 hd
        have e := repD_isF d hr hc.1
        subst e
        have hr' : RepD K cA H Z d u [] := repD_mono d hz (fun a o m e => by
          rcases m with m | m
          · exact hk a o m e
          · cases m) hr
        obtain ⟨g0, g2, hs2, q⟩ := relL_set r hc.2 hr'
        rw [set_same hu] at q
        exact ⟨_, (by simpa using hs2 : (g0 ++ [] ++ g2).Sublist L').trans hs, q⟩
      · exact ⟨L', hs, r⟩
    · exact ⟨L', hs, r⟩
theorem wipe_but {σ σ2 : L2.St} {ts : List Nat} : ∀ {vs : List Nat}, (∀ i ∈ ts, i ∈ vs) → But ts (wipe σ vs) σ2 → wipe σ2 vs = wipe σ vs := by
  intro vs hsub b
  have wl : ∀ (τ : L2.St) (vs : List Nat) (i : Nat), i ∈ vs → i < τ.length → (wipe τ vs)[i]? = some none := by
    intro τ vs
    induction vs with
    | nil => intro i h; cases h
    | cons v vs ih =>
      intro i h hl
      unfold wipe
      by_cases e : v = i
      · subst e
        rw [List.getElem?_set_self (by rw [wipe_length]; exact hl)]
      · rw [List.getElem?_set_ne e]
        rcases List.mem_cons.mp h with z | z
        · exact absurd z.symm e
        · exact ih i z hl
  have len : σ2.length = σ.length := by rw [b.1, wipe_length]
  apply List.ext_getElem?
  intro i
  by_cases hi : i ∈ vs
  · by_cases hl : i < σ.length
    · rw [wl σ2 vs i hi (by omega), wl σ vs i hi hl]
    · rw [List.getElem?_eq_none (by rw [wipe_length]; omega), List.getElem?_eq_none (by rw [wipe_length]; omega)]
  · rw [wipe_out hi, b.2 i (fun m => hi (hsub i m)), wipe_out hi]
end
/-- the turns: the items made -/
def lcL (vs : List Nat) (g : D → Env → Option Env) (t : Env → Out Bool) (f : Env → Out D) : List D → Env → Out (List D)
  | [], ρ => .ok [] ρ
  | d :: ds, ρ => match g d ρ with
    | none => .st
    | some ρ1 => match t ρ1 with
      | .ok true ρ2 => (match f ρ2 with
        | .ok y ρ3 => (match lcL vs g t f ds (wipeE ρ3 vs) with
          | .ok ys ρ4 => .ok (y :: ys) ρ4
          | _ => .st)
        | _ => .st)
      | .ok false ρ2 => lcL vs g t f ds (wipeE ρ2 vs)
      | _ => .st
def dLc (vs : List Nat) (src : Env → Out (List D)) (g : D → Env → Option Env) (t : Env → Out Bool) (f : Env → Out D) : Env → Out D := fun ρ => match src ρ with
  | .ok ds ρ1 => if ds.length ≤ cap then (match lcL vs g t f ds (wipeE ρ1 vs) with
    | .ok ys ρ2 => .ok (.lst true ys) (backE ρ1 vs (wipeE ρ2 vs))
    | _ => .st) else .st
  | .ex e ρ1 => .ex e ρ1
  | .st => .st
/-- no exception leaves a block -/
abbrev WN : WX := fun _ _ _ _ => False
def DTs (X : Cx) (cA : Str → Addr) (W : WX) (f : Env → Out Bool) (es : List Expr) : Prop := PTs X es (TTof X.K cA W f)
def dYes : Env → Out Bool := fun ρ => .ok true ρ
theorem PTs.imp {X : Cx} {es : List Expr} {t t' : TT} (h : PTs X es t) (i : ∀ σ H Q, t' σ H Q → t σ H Q) : PTs X es t' := ⟨fun pins s σ H Q I w => h.run pins s σ H Q I (i σ H Q w)⟩
theorem dts_nil {X : Cx} {cA : Str → Addr} {W : WX} : DTs X cA W dYes [] := PTs.imp pts_nil fun σ H Q ⟨Z, L, ρ, r, w, p⟩ => p H Z L r w Fr.refl
theorem dts_one {X : Cx} {cA : Str → Addr} {W : WX} {t : Env → Out Bool} {c : Expr} (h : DT X cA W t c) : DTs X cA W t [c] := pts_one h
section
variable {X : Cx} {cA : Str → Addr} {W : WX} {src : Env → Out (List D)} {ts : List Nat} {g : D → Env → Option Env} {t : Env → Out Bool} {f : Env → Out D} {iter tg elt : Expr} {ifs : List Expr} {scope : Scope} {own : List (Str × Nat)} {pos : Pos}
/-- a new item is put behind -/
theorem acc_put {K : PySem.W.Frag} {H : Hp} {Z : ZS} {q : Addr} {acc : List D} {vacc : List V} {gacc fp L : FP} {y : D} {v : V} (w : Wf H Z ((q :: gacc) ++ (fp ++ L))) (hq : H q = some (.lst vacc)) (ra : RepL K cA H Z acc vacc gacc) (ry : RepD K cA H Z y v fp)
    {ρ : Env} {σ : L2.St} (r : RelL K cA H Z ρ σ L) {H0 : Hp} {Z0 : ZS} {L0 : FP} (F : Fr H0 Z0 L0 H Z ((q :: gacc) ++ (fp ++ L))) :
    RepL K cA (upd H q (.lst (vacc ++ [v]))) Z (acc ++ [y]) (vacc ++ [v]) (gacc ++ fp) ∧ RelL K cA (upd H q (.lst (vacc ++ [v]))) Z ρ σ L ∧ Wf (upd H q (.lst (vacc ++ [v]))) Z ((q :: (gacc ++ fp)) ++ L) ∧ Fr H0 Z0 L0 (upd H q (.lst (vacc ++ [v]))) Z ((q :: (gacc ++ fp)) ++ L) := by
  have nd := List.nodup_append.mp w.nd
  have nq := List.nodup_cons.mp nd.1
  have qz : ¬ Z q := w.dj q (by simp)
  have qfp : q ∉ fp := fun m => nd.2.2 q (by simp) q (by simp [m]) rfl
  have qL : q ∉ L := fun m => nd.2.2 q (by simp) q (by simp [m]) rfl
  have kn : ∀ a o, a ≠ q → H a = some o → upd H q (.lst (vacc ++ [v])) a = some o := fun a o n e => by rw [upd_ne n]; exact e
  have e1 : (q :: gacc) ++ (fp ++ L) = (q :: (gacc ++ fp)) ++ L := by simp
  rw [e1] at w F
  refine ⟨repL_mono _ (fun _ z => z) (fun a o m e => kn a o (fun z => by
    subst z
    rcases m with m | m
    · exact qz m
    · rcases List.mem_append.mp m with m | m
      · exact nq.1 m
      · exact qfp m) e) (repL_append ra (repL_one ry)), relL_mono (fun _ z => z) (fun a o m e => kn a o (fun z => by
    subst z
    rcases m with m | m
    · exact qz m
    · exact qL m) e) r, ⟨w.nd, w.dj, fun a z => ?_⟩, ⟨fun a o e n => ?_, F.zm, F.zs, F.ls⟩⟩
  · obtain ⟨o, e⟩ := w.tz a z
    by_cases h : a = q
    · subst h; exact absurd z qz
    · exact ⟨o, kn a o h e⟩
  · have e2 := F.keep a o e n
    by_cases h : a = q
    · subst h
      rcases F.ls a (by simp) with z | z
      · exact absurd z n
      · rw [z] at e; cases e
    · exact kn a o h e2
theorem te_lc {K : PySem.W.Frag} (hsub : ∀ i ∈ ts, i ∈ own.map (·.2)) : ∀ σ H Q, TEof K cA W (dLc (own.map (·.2)) src g t f) σ H Q →
    tLc (TIof K cA W src) (TGof K cA ts g) (TTof K cA WN t) (TEof K cA WN f) (own.map (·.2)) σ H Q := by
  generalize hvs : own.map (·.2) = vs at hsub ⊢
  rintro σ H Q ⟨Z, L, ρ, r, w, p⟩
  refine ⟨Z, L, ρ, r, w, ?_⟩
  unfold dLc at p
  cases hsrc : src ρ with
  | st => rw [hsrc] at p; exact p
  | ex e ρ1 => rw [hsrc] at p; exact p
  | ok ds ρ1 =>
    rw [hsrc] at p
    dsimp only at p
    split at p
    case isFalse => exact p.elim
    rename_i hcap
    intro J H1 Z1 L1 r1 w1 F1 hit q hq
    obtain ⟨Lw, sw, rw'⟩ := relL_wipe r1 vs
    have kn := keep_new (o := .lst []) hq
    -- where the turns stand
    refine ⟨fun i m Hi => m = ds.length - i ∧ i ≤ ds.length ∧ ∃ Zi Li ρi acc vacc gacc, RelL K cA Hi Zi ρi (wipe σ vs) Li ∧ Wf Hi Zi ((q :: gacc) ++ Li) ∧ Hi q = some (.lst vacc) ∧ RepL K cA Hi Zi acc vacc gacc ∧ acc.length ≤ i ∧ Fr H1 Z1 L1 Hi Zi ((q :: gacc) ++ Li) ∧ ρi = wipeE ρi vs ∧
      (match lcL vs g t f (ds.drop i) ρi with
        | .ok ys ρ2 => PostE K cA W σ H Z L Q (.ok (.lst true (acc ++ ys)) (backE ρ1 vs (wipeE ρ2 vs)))
        | _ => False), ⟨_, rfl, Nat.zero_le _, Z1, Lw, wipeE ρ1 vs, [], [], [], ?_, ?_, upd_same, ⟨rfl, rfl⟩, Nat.le_refl _, ?_, ?_, ?_⟩, ?_⟩
    · exact relL_mono (fun _ z => z) (fun a o _ e => kn a o e) rw'
    · exact wf_new (w1.less sw) hq (fun a m => relL_trk rw' a m)
    · exact (fr_new hq).less fun x m => by
        rcases List.mem_cons.mp m with z | z
        · simp [z]
        · simp [sw.subset (by simpa using z)]
    · -- wiped twice
      have key : ∀ (vs : List Nat) (ρ : Env), (∀ i ∈ vs, i < ρ.length → ρ[i]? = some none) → wipeE ρ vs = ρ := by
        intro vs
        induction vs with
        | nil => intro ρ _; rfl
        | cons v vs ih =>
          intro ρ h
          unfold wipeE
          rw [ih ρ fun i m => h i (by simp [m])]
          apply List.ext_getElem?
          intro j
          by_cases e : v = j
          · subst e
            by_cases hl : v < ρ.length
            · rw [List.getElem?_set_self hl, h v (by simp) hl]
            · rw [List.getElem?_eq_none (by rw [List.length_set]; omega), List.getElem?_eq_none (by omega)]
          · rw [List.getElem?_set_ne e]
      refine (key vs (wipeE ρ1 vs) fun i m hl => ?_).symm
      cases hx : (wipeE ρ1 vs)[i]? with
      | none =>
        have := List.getElem?_eq_none_iff.mp hx
        omega
      | some o =>
        cases o with
        | none => rfl
        | some d => exact absurd m (wipeE_some hx).1
    · rw [List.drop_zero]
      cases hl : lcL vs g t f ds (wipeE ρ1 vs) with
      | ok ys ρ2 => rw [hl] at p; exact p
      | ex e ρ2 => rw [hl] at p; exact p
      | st => rw [hl] at p; exact p
    rintro i m Hi ⟨rfl, hil, Zi, Li, ρi, acc, vacc, gacc, ri, wi, hqi, ra, hacc, Fi, hwi, qi⟩
    have wiL : Wf Hi Zi Li := wi.less (List.sublist_append_right _ _)
    -- the list waits
    have rq : RepD K cA Hi Zi (.lst true acc) (.ref q) (q :: gacc) := ⟨q, vacc, gacc, rfl, ra, ⟨hqi, fun z => nomatch z⟩, rfl, fun z => nomatch z⟩
    have FiL : Fr H1 Z1 L1 Hi Zi Li := Fi.less fun x m => by simp [m]
    obtain ⟨tn, stp⟩ := it_turn hit w1 FiL ri wiL i
    cases hd : ds[i]? with
    | none =>
      left
      have hl : ds.length ≤ i := List.getElem?_eq_none_iff.mp hd
      refine ⟨stp hl, ?_⟩
      rw [List.drop_eq_nil_of_le hl] at qi
      have qi : PostE K cA W σ H Z L Q (.ok (.lst true (acc ++ [])) (backE ρ1 vs (wipeE ρi vs))) := qi
      rw [List.append_nil] at qi
      have ri' := ri
      rw [hwi] at ri'
      obtain ⟨L', hs', rb⟩ := relL_back r1 Fi.zm (fun a o z e => Fi.keep a o e fun m => w1.dj a m z) vs ri'
      have hsub2 : ((q :: gacc) ++ L').Sublist ((q :: gacc) ++ Li) := (List.Sublist.refl _).append hs'
      exact qi (.ref q) Hi Zi L' (q :: gacc) rb (wi.less hsub2) rq (F1.trans (Fi.less fun x m => hsub2.subset m))
    | some d =>
      right
      obtain ⟨go, yl⟩ := tn d hd
      have hlt : i < ds.length := (List.getElem?_eq_some_iff.mp hd).1
      rw [drop_cons' hd] at qi
      unfold lcL at qi
      refine ⟨go, fun H' => ∃ Z' L' ρ' acc' vacc' gacc', RelL K cA H' Z' ρ' (wipe σ vs) L' ∧ Wf H' Z' ((q :: gacc') ++ L') ∧ H' q = some (.lst vacc') ∧ RepL K cA H' Z' acc' vacc' gacc' ∧ acc'.length ≤ i + 1 ∧ Fr H1 Z1 L1 H' Z' ((q :: gacc') ++ L') ∧ ρ' = wipeE ρ' vs ∧
        (match lcL vs g t f (ds.drop (i + 1)) ρ' with
          | .ok ys ρ2 => PostE K cA W σ H Z L Q (.ok (.lst true (acc' ++ ys)) (backE ρ1 vs (wipeE ρ2 vs)))
          | _ => False), ?_, fun x H' y => ?_⟩
      · rintro H' ⟨Z', L', ρ', acc', vacc', gacc', a1, a2, a3, a4, a5, a6, a7, a8⟩
        exact ⟨ds.length - (i + 1), by omega, rfl, hlt, Z', L', ρ', acc', vacc', gacc', a1, a2, a3, a4, a5, a6, a7, a8⟩
      · obtain ⟨Z2, r2, w2, F2, h2⟩ := yl x H' y
        cases hgd : g d ρi with
        | none => rw [hgd] at qi; exact qi.elim
        | some ρa =>
          rw [hgd] at qi
          refine ⟨d, Z2, Li, ρi, ρa, r2, w2, h2, hgd, fun σa Ha Za La ra' wa Fa ba => ?_⟩
          have hwσ := wipe_but hsub ba
          refine ⟨hwσ, ?_⟩
          have FA : Fr Hi Zi Li Ha Za La := F2.trans Fa
          refine ⟨Za, La, ρa, ra', wa, ?_⟩
          dsimp only at qi
          have idem : ∀ ρ : Env, wipeE ρ vs = wipeE (wipeE ρ vs) vs := by
            intro ρ
            have key : ∀ (us : List Nat) (ρ : Env), (∀ i ∈ us, i < ρ.length → ρ[i]? = some none) → wipeE ρ us = ρ := by
              intro us
              induction us with
              | nil => intro ρ _; rfl
              | cons v us ih =>
                intro ρ h
                unfold wipeE
                rw [ih ρ fun i m => h i (by simp [m])]
                apply List.ext_getElem?
                intro j
                by_cases e : v = j
                · subst e
                  by_cases hl : v < ρ.length
                  · rw [List.getElem?_set_self hl, h v (by simp) hl]
                  · rw [List.getElem?_eq_none (by rw [List.length_set]; omega), List.getElem?_eq_none (by omega)]
                · rw [List.getElem?_set_ne e]
            refine (key vs (wipeE ρ vs) fun i m hl => ?_).symm
            cases hx : (wipeE ρ vs)[i]? with
            | none =>
              have := List.getElem?_eq_none_iff.mp hx
              omega
            | some o =>
              cases o with
              | none => rfl
              | some d => exact absurd m (wipeE_some hx).1
          cases ht : t ρa with
          | st => rw [ht] at qi; exact qi
          | ex e ρ2 => rw [ht] at qi; exact qi.elim
          | ok bb ρ2 =>
            rw [ht] at qi
            intro Hb Zb Lb rb wb Fb
            have FB : Fr Hi Zi Li Hb Zb Lb := FA.trans Fb
            cases bb with
            | false =>
              rw [if_neg Bool.false_ne_true]
              obtain ⟨Lw2, sw2, rw2⟩ := relL_wipe rb vs
              rw [hwσ] at rw2
              have wB := wi.wait (repD_trk _ rq) FB wb
              have rqB := repD_wait wi rq FB
              have sub3 : ((q :: gacc) ++ Lw2).Sublist ((q :: gacc) ++ Lb) := (List.Sublist.refl _).append sw2
              obtain ⟨p0, vs0, g0, e0, e1, e2, e3, _⟩ := rep_lst rqB
              cases e0
              rw [if_pos rfl] at e3
              cases e3
              exact ⟨Zb, Lw2, wipeE ρ2 vs, acc, vs0, gacc, rw2, wB.less sub3, e1, e2, by omega, (Fi.wait wi FB).less fun x m => sub3.subset m, idem ρ2, qi⟩
            | true =>
              rw [if_pos rfl]
              dsimp only at qi
              refine ⟨Zb, Lb, ρ2, rb, wb, ?_⟩
              cases hfv : f ρ2 with
              | st => rw [hfv] at qi; exact qi
              | ex e ρ3 => rw [hfv] at qi; exact qi.elim
              | ok yv ρ3 =>
                rw [hfv] at qi
                intro v Hc Zc Lc fpc rc wc hc Fc
                dsimp only at qi
                have FC : Fr Hi Zi Li Hc Zc (fpc ++ Lc) := FB.trans Fc
                have wC := wi.wait (repD_trk _ rq) FC wc
                have rqC := repD_wait wi rq FC
                have FC1 := Fi.wait wi FC
                obtain ⟨p0, vs0, g0, e0, e1, e2, e3, _⟩ := rep_lst rqC
                cases e0
                rw [if_pos rfl] at e3
                cases e3
                have len := repL_len e2
                refine ⟨vs0, e1, cap_lt (by omega), ?_⟩
                obtain ⟨b1, b2, b3, b4⟩ := acc_put wC e1 e2 hc rc FC1
                obtain ⟨Lw2, sw2, rw2⟩ := relL_wipe b2 vs
                rw [hwσ] at rw2
                have sub3 : ((q :: (gacc ++ fpc)) ++ Lw2).Sublist ((q :: (gacc ++ fpc)) ++ Lc) := (List.Sublist.refl _).append sw2
                refine ⟨Zc, Lw2, wipeE ρ3 vs, acc ++ [yv], vs0 ++ [v], gacc ++ fpc, rw2, b3.less sub3, upd_same, b1, by simp; omega, b4.less fun x m => sub3.subset m, idem ρ3, ?_⟩
                cases hrest : lcL vs g t f (ds.drop (i + 1)) (wipeE ρ3 vs) with
                | st => rw [hrest] at qi; exact qi
                | ex e ρ4 => rw [hrest] at qi; exact qi
                | ok ys ρ4 =>
                  rw [hrest] at qi
                  show PostE K cA W σ H Z L Q (.ok (.lst true ((acc ++ [yv]) ++ ys)) _)
                  rw [List.append_assoc]
                  exact qi
theorem de_lc (hc : X.calm = true) (hN : X.N.Nodup) (hi : DI X cA W src tg iter) (ok : BlkOk X.N X.env.scope scope own) (hsub : ∀ i ∈ ts, i ∈ own.map (·.2))
    (hg : ∀ (s : Shared) (H : Hp) (C : Addr) (cl : List (Str × Addr)) (fp : List Addr), DG (X.blk s H scope (compEnvC scope cl C X.env) fp) cA ts g tg)
    (ht : ∀ (s : Shared) (H : Hp) (C : Addr) (cl : List (Str × Addr)) (fp : List Addr), DTs (X.blk s H scope (compEnvC scope cl C X.env) fp) cA WN t ifs)
    (he : ∀ (s : Shared) (H : Hp) (C : Addr) (cl : List (Str × Addr)) (fp : List Addr), DE (X.blk s H scope (compEnvC scope cl C X.env) fp) cA WN f elt) (hs : ∀ x, foldedSetIterable iter X.env x = pure x := by intro _; kernel_rfl) :
    DE X cA W (dLc (own.map (·.2)) src g t f) (.ListComp elt [⟨tg, iter, ifs, 0⟩] scope pos) := PE.imp (pe_lc (g := TGof X.K cA ts g) (tt := TTof X.K cA WN t) (te := TEof X.K cA WN f) hc hN hi ok hg ht he hs) (te_lc hsub)
theorem ds_setLc {k : Option Nat} {i : Nat} {y : Str} {py spos : Pos} (hc : X.calm = true) (hN : X.N.Nodup) (hy : X.N[i]? = some y) (hyl : X.env.scope.names.lookup y = some .local)
    (hsw : swapsWith (.ListComp elt [⟨tg, iter, ifs, 0⟩] scope pos) (some (.Name y py)) spos.line X.env = pure true) (hi : DI X cA W src tg iter) (ok : BlkOk X.N X.env.scope scope own) (hsub : ∀ i ∈ ts, i ∈ own.map (·.2))
    (hg : ∀ (s : Shared) (H : Hp) (C : Addr) (cl : List (Str × Addr)) (fp : List Addr), DG (X.blk s H scope (compEnvC scope cl C X.env) fp) cA ts g tg)
    (ht : ∀ (s : Shared) (H : Hp) (C : Addr) (cl : List (Str × Addr)) (fp : List Addr), DTs (X.blk s H scope (compEnvC scope cl C X.env) fp) cA WN t ifs)
    (he : ∀ (s : Shared) (H : Hp) (C : Addr) (cl : List (Str × Addr)) (fp : List Addr), DE (X.blk s H scope (compEnvC scope cl C X.env) fp) cA WN f elt) (hk : k ≠ some i := by decide) (hs : ∀ x, foldedSetIterable iter X.env x = pure x := by intro _; kernel_rfl) :
    DS X cA W k (dBind (dLc (own.map (·.2)) src g t f) (stSet i)) (.Assign [.Name y py] (.ListComp elt [⟨tg, iter, ifs, 0⟩] scope pos) spos) :=
  ds_of (L2.ps_setLc (g := TGof X.K cA ts g) (tt := TTof X.K cA WN t) (te := TEof X.K cA WN f) hc hN hy hyl hsw hi ok hg ht he hs) fun T σ H Z L ρ r w p => te_lc hsub σ H _ (bind_te r w p fun d ρ1 v H1 Z1 L1 fp hd r1 w1 h1 F1 p => put_slot hk r1 w1 h1 F1 p)
end
/-- a value as it is stored: frozen -/
theorem ds_frz {X : Cx} {cA : Str → Addr} {W : WX} {k : Option Nat} {f : Env → Fl} {st : Stmt} (i : Nat) (h : DS X cA W k f st) (hk : k ≠ some i := by decide) : DS X cA W k (dSeq f fun ρ => match ρ[i]? with | some (some d) => .nx (ρ.set i (some (frz d))) | _ => .nx ρ) st :=
  ds_of h fun T σ H Z L ρ r w p => ⟨Z, L, ρ, r, w, by
    unfold dSeq at p
    cases hf : f ρ with
    | st => rw [hf] at p; exact p
    | bk ρ1 => rw [hf] at p; exact p
    | ct ρ1 => rw [hf] at p; exact p
    | rt d ρ1 => rw [hf] at p; exact p
    | ex e ρ1 => rw [hf] at p; exact p
    | nx ρ1 =>
      rw [hf] at p
      intro σ1 H1 Z1 L1 r1 w1 F1 q1
      dsimp only at p
      split at p
      · rename_i d hd
        obtain ⟨v, f0, f1, f2, hv, hr, ef, put, _⟩ := relL_at r1 hd
        have pm : L1.Perm (f1 ++ (f0 ++ f2)) := by
          rw [ef, List.append_assoc]
          exact (List.perm_append_comm_assoc f0 f1 f2)
        have q := put (H' := H1) (Z' := ZU Z1 f1) zu_sub (fun _ _ _ e => e) (repD_zu hr)
        rw [set_same hv, List.append_nil] at q
        exact p σ1 H1 _ _ q ((w1.perm pm).freeze (repD_trk d hr)) (Fr.freeze (F1.less fun x m => pm.mem_iff.mpr m)) q1
      · exact p σ1 H1 Z1 L1 r1 w1 F1 q1⟩
end DL
namespace DL
open PySem L2

/-! ### instances -/
section
variable {K : PySem.W.Frag} {cA : Str → Addr} {H : Hp} {Z : ZS}
theorem rep_ins {C : Str} {fs : List Str} {o : Bool} {xs : List D} {v : V} {fp : FP} (h : RepD K cA H Z (.n (.ins C fs) o xs) v fp) : ∃ p vs g dx, v = .ref p ∧ H p = some (.ins (cA C) dx (fs.zip vs)) ∧ fs.length = vs.length ∧ Cls K (cA C) ∧ (∀ f ∈ fs, NoAttr K (cA C) f) ∧
    RepL K cA H Z xs vs g ∧ fp = (if o then p :: g else []) ∧ (o = false → Z p ∧ g = []) := by
  obtain ⟨p, vs, g, e, hl, ⟨⟨dx, e1⟩, ⟨e2, e3, e4⟩, e5⟩, ef, hg⟩ := h
  exact ⟨p, vs, g, dx, e, e1, e2, e3, e4, hl, ef, fun q => ⟨e5 q, hg q⟩⟩
theorem zip_look {f : Str} : ∀ {fs : List Str} {xs : List D} {vs : List V} {g : FP} {d : D}, RepL K cA H Z xs vs g → (fs.zip xs).lookup f = some d → f ∈ fs ∧ ∃ v f0 f1 f2, (fs.zip vs).lookup f = some v ∧ RepD K cA H Z d v f1 ∧ g = f0 ++ f1 ++ f2
  | [], xs, vs, g, d, h, e => by simp at e
  | f' :: fs, [], vs, g, d, h, e => by simp at e
  | f' :: fs, x :: xs, vs, g, d, h, e => by
    obtain ⟨v, vs', f1, f2, ev, h1, h2, ef⟩ := h
    subst ev ef
    rw [List.zip_cons_cons, List.lookup_cons] at e
    rw [List.zip_cons_cons, List.lookup_cons]
    cases hf : f == f' with
    | true =>
      rw [hf] at e
      cases e
      have : f = f' := by simpa using hf
      exact ⟨by simp [this], v, [], f1, f2, rfl, h1, by simp⟩
    | false =>
      rw [hf] at e
      obtain ⟨m, u, g0, g1, g2, hu, hr, eg⟩ := zip_look h2 e
      exact ⟨by simp [m], u, f1 ++ g0, g1, g2, hu, hr, by rw [eg]; simp⟩
theorem zip_none {f : Str} : ∀ {fs : List Str} {vs : List V}, f ∉ fs → (fs.zip vs).lookup f = none
  | [], vs, _ => by simp
  | f' :: fs, [], _ => by simp
  | f' :: fs, v :: vs, h => by
    rw [List.zip_cons_cons, List.lookup_cons]
    have : (f == f') = false := by
      rw [beq_eq_false_iff_ne]
      exact fun e => h (by simp [e])
    rw [this]
    exact zip_none fun m => h (by simp [m])
theorem putF_new {f : Str} {v : V} : ∀ {fs : List Str} {vs : List V}, f ∉ fs → fs.length = vs.length → putF f v (fs.zip vs) = (fs ++ [f]).zip (vs ++ [v])
  | [], vs, _, hl => by
    have : vs = [] := List.eq_nil_of_length_eq_zero hl.symm
    subst this
    rfl
  | f' :: fs, [], _, hl => by simp at hl
  | f' :: fs, u :: vs, h, hl => by
    show (if f' = f then (f', v) :: fs.zip vs else (f', u) :: putF f v (fs.zip vs)) = _
    rw [if_neg fun e => h (by simp [e])]
    rw [putF_new (fun m => h (by simp [m])) (by simpa using hl)]
    rfl
end
/-- a field -/
def gFld (f : Str) : D → Option D
  | .n (.ins _ fs) _ xs => (match (fs.zip xs).lookup f with
    | some d => if isF d = true then some d else none
    | none => none)
  | _ => none
section
variable {X : Cx} {cA : Str → Addr} {W : WX} {fa : Env → Out D} {e o : Expr} {pos : Pos}
theorem de_fld {f : Str} (he : DP X cA W fa e) (hb : attributeBase e f X.env (eval e X.env) = eval e X.env := by kernel_rfl) : DE X cA W (dU (gFld f) fa) (.Attribute e f pos) :=
  PE.imp (pe_fld he hb) (te_un (r := fun x H1 Q => ∃ a C dx fs v, x = .ref a ∧ H1 a = some (.ins C dx fs) ∧ Cls X.K C ∧ NoAttr X.K C f ∧ fs.lookup f = some v ∧ Q v H1) (by
    refine ⟨@fun d1 d v1 H Z f1 Q h1 w hg q => ?_⟩
    unfold gFld at hg
    split at hg
    · rename_i C fs oo xs
      split at hg
      · rename_i d' hl
        split at hg
        · rename_i hF
          cases hg
          obtain ⟨p, vs, g, dx, rfl, e1, e2, e3, e4, rl, _, _⟩ := rep_ins h1
          obtain ⟨m, v, f0, f1, f2, hv, hr, eg⟩ := zip_look rl hl
          have efp := repD_isF _ hr hF
          subst efp
          exact ⟨p, cA C, dx, _, v, rfl, e1, e3, e4 f m, hv, q v H Z [] hr w Fr.refl⟩
        · cases hg
      · cases hg
    · cases hg))
/-- self.f = e, a new field of a new instance -/
def stFld (C f : Str) (i : Nat) (d : D) (ρ : Env) : Fl := match ρ[i]? with
  | some (some (.n (.ins C' fs) true xs)) => if C' = C ∧ f ∉ fs ∧ xs.length < 900 then .nx (ρ.set i (some (.n (.ins C (fs ++ [f])) true (xs ++ [d])))) else .st
  | _ => .st
theorem ds_fld {k : Option Nat} {C f : Str} {i : Nat} {pos' : Pos} (hC : Cls X.K (cA C)) (hf : NoAttr X.K (cA C) f) (ho : PE X o (tVar i)) (he : DE X cA W fa e) (hs : swapsWith e (some (.Attribute o f pos')) pos.line X.env = pure false := by kernel_rfl) :
    DS X cA W k (dBind fa (stFld C f i)) (.Assign [.Attribute o f pos'] e pos) := ds_of (ps_fld ho he hs) fun T σ H Z L ρ r w p => bind_te r w p fun d ρ1 v H1 Z1 L1 fp hd r1 w1 h1 F1 p => by
  unfold stFld at p
  split at p
  · rename_i C' fs xs hx
    split at p
    · rename_i hc
      obtain ⟨rfl, hnf, hlen⟩ := hc
      obtain ⟨u, f0, f1, f2, hv, hr, eL, put, _⟩ := relL_at r1 hx
      obtain ⟨q, vs, g, dx, rfl, e1, e2, e3, e4, rl, ef1, _⟩ := rep_ins hr
      rw [if_pos rfl] at ef1
      subst ef1
      have len := repL_len rl
      have zl : (fs.zip vs).length < 1000 := by rw [List.length_zip]; omega
      refine ⟨_, hv, q, cA C', dx, _, rfl, e1, e3, hf, zl, ?_⟩
      rw [putF_new hnf e2]
      -- the instance is written
      have nd := List.nodup_append.mp w1.nd
      rw [eL] at nd
      have ndL := List.nodup_append.mp nd.2.1
      have ndL1 := List.nodup_append.mp ndL.1
      have ndp := List.nodup_cons.mp ndL1.2.1
      have pz : ¬ Z1 q := w1.dj q (by rw [eL]; simp)
      have pf0 : q ∉ f0 := fun m => ndL1.2.2 q m q (by simp) rfl
      have pf2 : q ∉ f2 := fun m => ndL.2.2 q (by simp) q m rfl
      have pfp : q ∉ fp := fun m => nd.2.2 q m q (by simp) rfl
      generalize hH2 : upd H1 q (.ins (cA C') dx ((fs ++ [f]).zip (vs ++ [v]))) = H2
      have kn : ∀ a o, a ≠ q → H1 a = some o → H2 a = some o := fun a o n e => by rw [← hH2, upd_ne n]; exact e
      have h2q : H2 q = some (.ins (cA C') dx ((fs ++ [f]).zip (vs ++ [v]))) := by rw [← hH2]; exact upd_same
      have ra := repL_append rl (repL_one h1)
      have rep' : RepD X.K cA H2 Z1 (.n (.ins C' (fs ++ [f])) true (xs ++ [d])) (.ref q) (q :: (g ++ fp)) :=
        ⟨q, _, g ++ fp, rfl, repL_mono _ (fun _ z => z) (fun a o m e => kn a o (fun z => by
          subst z
          rcases m with m | m
          · exact pz m
          · rcases List.mem_append.mp m with m | m
            · exact ndp.1 m
            · exact pfp m) e) ra, ⟨⟨dx, h2q⟩, ⟨by simp [e2], e3, fun f' m => by
              rcases List.mem_append.mp m with m | m
              · exact e4 f' m
              · have : f' = f := by simpa using m
                rw [this]; exact hf⟩, fun z => nomatch z⟩, rfl, fun z => nomatch z⟩
      have q' := put (H' := H2) (Z' := Z1) (fun _ z => z) (fun a o m e => kn a o (fun z => by
        subst z
        rcases m with m | m | m
        · exact pz m
        · exact pf0 m
        · exact pf2 m) e) rep'
      rw [set_same hv] at q'
      have pm : (fp ++ (f0 ++ (q :: g) ++ f2)).Perm (f0 ++ (q :: (g ++ fp)) ++ f2) := by
        have a1 : (f0 ++ (q :: (g ++ fp)) ++ f2) = f0 ++ (q :: g) ++ (fp ++ f2) := by simp
        rw [a1]
        have a2 : (fp ++ (f0 ++ (q :: g) ++ f2)) = fp ++ ((f0 ++ (q :: g)) ++ f2) := rfl
        rw [a2]
        exact List.perm_append_comm_assoc fp (f0 ++ (q :: g)) f2
      rw [eL] at w1 F1
      have w2 := w1.perm pm
      refine p σ H2 Z1 _ q' ⟨w2.nd, w2.dj, fun a z => ?_⟩ ⟨fun a o e n => ?_, F1.zm, F1.zs, fun a m => F1.ls a (pm.mem_iff.mpr m)⟩ Pin.refl
      · obtain ⟨o, e⟩ := w1.tz a z
        by_cases h : a = q
        · subst h; exact absurd z pz
        · exact ⟨o, kn a o h e⟩
      · have e1 := F1.keep a o e n
        by_cases h : a = q
        · subst h
          rcases F1.ls a (by simp) with z | z
          · exact absurd z n
          · rw [z] at e; cases e
        · exact kn a o h e1
    · exact p.elim
  · exact p.elim
end

/-! ### methods, new instances -/
def dMeth (C m : Str) (n : Nat) (F : List D → FR) (fa : Env → Out D) (g : Env → Out (List Ag)) : Env → Out D := fun ρ => match fa ρ with
  | .ok (.n (.ins C' fs) false xs) ρ1 => if C' = C ∧ m ∉ fs ∧ isFL xs = true then dCall n (fun ds => F (.n (.ins C fs) false xs :: ds)) g ρ1 else .st
  | .ok _ _ => .st
  | .ex e ρ1 => .ex e ρ1
  | .st => .st
/-- C(e, ..) -/
def dMake (C : Str) (n : Nat) (F : List D → FR) (g : Env → Out (List Ag)) : Env → Out D := fun ρ => match g ρ with
  | .ok ds ρ1 => (match agL ds with
    | some xs => if xs.length = n then (match F (.n (.ins C []) true [] :: frzL xs) with
      | .rt (.a .non) (some d) => .ok d ρ1
      | .ex e _ => .ex e ρ1
      | _ => .st) else .st
    | none => .st)
  | .ex e ρ1 => .ex e ρ1
  | .st => .st
section
variable {X : Cx} {cA : Str → Addr} {W : WX} {fa : Env → Out D} {g : Env → Out (List Ag)} {k n : Nat} {kio : Option Nat} {f : Addr} {fd : FuncData} {ps : List Str} {F : List D → FR} {x m : Str} {p pos apos : Pos} {o e : Expr} {es : List Expr}
def tMethS (C : Addr) (m : Str) (sp : Sp) (E : L2.St → XK) (ta : TE) (t : TA) : TE := fun σ H Q => ta σ H fun x H1 => ∃ a dx fs, x = .ref a ∧ H1 a = some (.ins C dx fs) ∧ fs.lookup m = none ∧ t σ H1 fun vs H2 => sp (x :: vs) H2 Q (E σ)
theorem pe_methS {C : Addr} {sp : Sp} {E : L2.St → XK} {ta : TE} {t : TA} {pl : Sem Bool} (he : PE X o ta) (c : Cls X.K C) (hm : Meth X.K C m f) (F : FnOk X.prog X.w X.K X.mg X.base (L2.CX X.prog X.w) k f fd ps sp) (hr : Room k X.A) (hb : Binds X.K fd ps []) (hx : ∀ σ, PassesAt (L2.CX X.prog X.w) X σ (E σ)) (ha : PA X (e :: es) t)
    (hst : starEach (e :: es) X.env = (false, eval e X.env) :: starEach es X.env := by kernel_rfl) (hpl : (backTo pos (starEach es X.env)).any (·.1) = false := by kernel_rfl)
    (ht : eval (.Call (.Attribute o m apos) (e :: es) [] pos) X.env = (do
      let ov ← eval o X.env
      standAt apos.atName
      let (f, first) ← holding [ov] (getMethod ov m pl)
      callWith pos f first (backTo pos (starEach (e :: es) X.env)) (backToKw pos (keywordEach [] X.env))) := by rfl) :
    PE X (.Call (.Attribute o m apos) (e :: es) [] pos) (tMethS C m sp E ta t) := by
  refine ⟨fun pins s σ H Q I h => ?_⟩
  refine PySem.W.methodCall_KW (pl := pl) (thn (he.run pins s σ H _ I h) fun u s1 ⟨x, H1, I1, rx, a, dx, fs, ex, ea, l, q⟩ => ?_) ht
  subst ex
  obtain rfl : u = Value.ref a := rx
  refine getmeth_ok I1 ea c hm l ?_
  refine PySem.W.callWith_K (first := [.ref a]) (h₀ := X.base) I.ok.mod.kin hm.kp (thn (ha.run pos pins s1 σ H1 _ I1 q) fun us s2 ⟨vs, H2, I2, r, q2⟩ => ⟨I2.kIn, ?_⟩) hst hpl
  exact run_fnS (us := .ref a :: us) (vs := .ref a :: vs) F hr hb (hx σ) I2 (.cons rfl r) q2
theorem pe_methS0 {C : Addr} {sp : Sp} {E : L2.St → XK} {ta : TE} {pl : Sem Bool} (he : PE X o ta) (c : Cls X.K C) (hm : Meth X.K C m f) (F : FnOk X.prog X.w X.K X.mg X.base (L2.CX X.prog X.w) k f fd ps sp) (hr : Room k X.A) (hb : Binds X.K fd ps []) (hx : ∀ σ, PassesAt (L2.CX X.prog X.w) X σ (E σ))
    (ht : eval (.Call (.Attribute o m apos) [] [] pos) X.env = (do
      let ov ← eval o X.env
      standAt apos.atName
      let (f, first) ← holding [ov] (getMethod ov m pl)
      callWith pos f first (backTo pos (starEach [] X.env)) (backToKw pos (keywordEach [] X.env))) := by rfl) :
    PE X (.Call (.Attribute o m apos) [] [] pos) (tMethS C m sp E ta tNil) := by
  refine ⟨fun pins s σ H Q I h => ?_⟩
  refine PySem.W.methodCall_KW (pl := pl) (thn (he.run pins s σ H _ I h) fun u s1 ⟨x, H1, I1, rx, a, dx, fs, ex, ea, l, q⟩ => ?_) ht
  subst ex
  obtain rfl : u = Value.ref a := rx
  refine getmeth_ok I1 ea c hm l ?_
  exact PySem.W.callWith_K0 (first := [.ref a]) I1.kIn hm.kp (run_fnS (us := [.ref a]) (vs := [.ref a]) F hr hb (hx σ) I1 (.cons rfl .nil) q)
/-- the receiver is at hand, the arguments come, the promise is asked -/
theorem te_meth {K : PySem.W.Frag} {C : Str} : ∀ σ H Q, TEof K cA W (dMeth C m n F fa g) σ H Q → tMethS (cA C) m (spF K cA (n + 1) kio F) (WE W) (TEof K cA W fa) (TAof K cA W g) σ H Q := by
  rintro σ H Q ⟨Z, L, ρ, r, w, p⟩
  refine ⟨Z, L, ρ, r, w, ?_⟩
  unfold dMeth at p
  cases ha : fa ρ with
  | st => rw [ha] at p; exact p
  | ex e ρ' => rw [ha] at p; exact p
  | ok d ρ1 =>
    rw [ha] at p
    intro v H1 Z1 L1 f1 r1 w1 h1 F1
    split at p
    · rename_i C' fs xs ρ1' eo
      cases eo
      split at p
      · rename_i hc
        obtain ⟨rfl, hm, hF⟩ := hc
        have hisf : isF (.n (.ins C' fs) false xs) = true := by
          show (!false && isFL xs) = true
          rw [hF]; rfl
        have efp := repD_isF _ h1 hisf
        subst efp
        obtain ⟨q, vs, gg, dx, rfl, e1, e2, e3, e4, rl, _, zz⟩ := rep_ins h1
        refine ⟨q, dx, _, rfl, e1, zip_none hm, Z1, L1, ρ1, r1, w1, ?_⟩
        unfold dCall at p
        cases hg : g ρ1 with
        | st => rw [hg] at p; exact p
        | ex e ρ' => rw [hg] at p; exact exw p F1
        | ok ds ρ2 =>
          rw [hg] at p
          intro us H2 Z2 L2 f2 r2 w2 h2 F2
          dsimp only at p
          split at p
          · rename_i ys hy
            split at p
            · rename_i hn
              have hL := repA_L hy h2
              have hself : RepD K cA H2 Z2 (.n (.ins C' fs) false xs) (.ref q) [] := repD_wait (fp := []) w1 h1 F2
              have hall : RepL K cA H2 Z2 (.n (.ins C' fs) false xs :: ys) (.ref q :: us) f2 := ⟨.ref q, us, [], f2, rfl, hself, hL, rfl⟩
              refine call_in (xs := .n (.ins C' fs) false xs :: ys) (by simp [hn]) r2 w2 hall (F1.trans F2) ?_
              have efr : frzL (.n (.ins C' fs) false xs :: ys) = .n (.ins C' fs) false xs :: frzL ys := by
                show frz _ :: frzL ys = _
                rw [frz_isF _ hisf]
              rw [efr]
              exact p
            · exact p.elim
          · exact p.elim
      · exact p.elim
    · exact p.elim
    · rename_i e; cases e
    · rename_i e; cases e
theorem de_meth {C : Str} {pl : Sem Bool} (ho : DE X cA W fa o) (c : Cls X.K (cA C)) (hm : Meth X.K (cA C) m f) (Fo : FnOk X.prog X.w X.K X.mg X.base (L2.CX X.prog X.w) k f fd ps (spF X.K cA (n + 1) kio F)) (hr : Room k X.A) (hb : Binds X.K fd ps []) (tk : Takes X W) (ha : DA X cA W g (e :: es))
    (hst : starEach (e :: es) X.env = (false, eval e X.env) :: starEach es X.env := by kernel_rfl) (hpl : (backTo pos (starEach es X.env)).any (·.1) = false := by kernel_rfl)
    (ht : eval (.Call (.Attribute o m apos) (e :: es) [] pos) X.env = (do
      let ov ← eval o X.env
      standAt apos.atName
      let (f, first) ← holding [ov] (getMethod ov m pl)
      callWith pos f first (backTo pos (starEach (e :: es) X.env)) (backToKw pos (keywordEach [] X.env))) := by rfl) :
    DE X cA W (dMeth C m n F fa g) (.Call (.Attribute o m apos) (e :: es) [] pos) := PE.imp (pe_methS ho c hm Fo hr hb (passAt tk) ha hst hpl ht) te_meth
theorem de_meth0 {C : Str} {pl : Sem Bool} (ho : DE X cA W fa o) (c : Cls X.K (cA C)) (hm : Meth X.K (cA C) m f) (Fo : FnOk X.prog X.w X.K X.mg X.base (L2.CX X.prog X.w) k f fd ps (spF X.K cA (0 + 1) kio F)) (hr : Room k X.A) (hb : Binds X.K fd ps []) (tk : Takes X W)
    (ht : eval (.Call (.Attribute o m apos) [] [] pos) X.env = (do
      let ov ← eval o X.env
      standAt apos.atName
      let (f, first) ← holding [ov] (getMethod ov m pl)
      callWith pos f first (backTo pos (starEach [] X.env)) (backToKw pos (keywordEach [] X.env))) := by rfl) :
    DE X cA W (dMeth C m 0 F fa dANil) (.Call (.Attribute o m apos) [] [] pos) := PE.imp (pe_methS0 ho c hm Fo hr hb (passAt tk) ht) fun σ H Q p => by
  have q := te_meth (kio := kio) (g := dANil) σ H Q p
  obtain ⟨Z, L, ρ, r, w, q⟩ := q
  refine ⟨Z, L, ρ, r, w, ?_⟩
  cases ha : fa ρ with
  | st => rw [ha] at q; exact q
  | ex e ρ' => rw [ha] at q; exact q
  | ok d ρ1 =>
    rw [ha] at q
    intro v H1 Z1 L1 f1 r1 w1 h1 F1
    obtain ⟨a, dx, fs, e1, e2, e3, Z2, L2, ρ2, r2, w2, q2⟩ := q v H1 Z1 L1 f1 r1 w1 h1 F1
    exact ⟨a, dx, fs, e1, e2, e3, q2 [] H1 Z2 L2 [] r2 w2 ⟨rfl, rfl⟩ Fr.refl⟩
/-- C(..) -/
def tMakeS (C : Addr) (sp : Sp) (E : L2.St → XK) (t : TA) : TE := fun σ H Q => t σ H fun vs H1 => ∀ x dx, H1 x = none → H1 dx = none → dx ≠ x →
  sp (.ref x :: vs) (upd (upd H1 dx (.own x)) x (.ins C dx [])) (fun v H2 => v = .non ∧ Q (.ref x) H2) (E σ)
theorem pe_makeS {C : Addr} {sp : Sp} {E : L2.St → XK} {t : TA} (M : Mk X.K C f) (F : FnOk X.prog X.w X.K X.mg X.base (L2.CX X.prog X.w) k f fd ps sp) (hr : Room (k + 1) X.A) (hg : Gl X x) (hm : X.mg x = some (.ref C)) (hb : Binds X.K fd ps []) (hx : ∀ σ, PassesAt (L2.CX X.prog X.w) X σ (E σ))
    (ha : PA X (e :: es) t) (hdb : (x == ("__debug__" : Str)) = false := by kernel_rfl) (he : starEach (e :: es) X.env = (false, eval e X.env) :: starEach es X.env := by kernel_rfl) (hpl : (backTo pos (starEach es X.env)).any (·.1) = false := by kernel_rfl) :
    PE X (.Call (.Name x p) (e :: es) [] pos) (tMakeS C sp E t) := by
  refine ⟨fun pins s σ H Q I h => ?_⟩
  refine wpAny_Call_Name_kw (ld_glob I hg hm ?_ hdb)
  refine PySem.W.callWith_K (h₀ := X.base) I.ok.mod.kin M.kp (thn (ha.run pos pins s σ H _ I h) fun us s1 ⟨vs, H1, I1, r, q⟩ => ⟨I1.kIn, ?_⟩) he hpl
  -- as in run_make, what is raised wished for at the slots
  have hq := q (s1.heap.objs.size + 1) s1.heap.objs.size (I1.hok.fresh (Nat.le_succ _)) (I1.hok.fresh (Nat.le_refl _)) (Nat.ne_of_lt (Nat.lt_succ_self _))
  have I2 := Inv.made (C := C) I1
  have r2 : Vals (V.ref (s1.heap.objs.size + 1) :: vs) (Value.ref (s1.heap.objs.size + 1) :: us) := .cons rfl r
  have hl : (Value.ref (s1.heap.objs.size + 1) :: us).length = ps.length := by
    have e := r2.length
    rw [F.len _ _ _ _ hq] at e
    exact e.symm
  have b := hb _ (Value.ref (s1.heap.objs.size + 1) :: us) I2.kIn (by rw [List.append_nil]; exact hl)
  rw [List.append_nil] at b
  refine wpAny_call (make_map (f := f) I1.kIn M.makes M.init (beq_iff_eq.mp M.fn) (codeAny_mono (F.run _ X.stack _ _ ⟨Value.ref (s1.heap.objs.size + 1) :: us, []⟩ (Value.ref (s1.heap.objs.size + 1) :: us) _ _ (E σ) (hr.make C us [])
    (I2.env0.make C us []) b r2 hq) fun r s' hq' => ?_))
  cases r with
  | error e => exact hx σ pins _ _ e s' I2 hq'
  | ok fl =>
    cases fl with
    | ret u =>
      obtain ⟨v, H', I3, rv, ev, q3⟩ := I2.after hq'
      subst ev
      exact ⟨rv, ⟨V.ref (s1.heap.objs.size + 1), H', I3, rfl, q3⟩⟩
    | next => exact False.elim hq'
    | brk => exact False.elim hq'
    | cont => exact False.elim hq'
theorem te_make {K : PySem.W.Frag} {C : Str} (hC : Cls K (cA C)) : ∀ σ H Q, TEof K cA W (dMake C n F g) σ H Q → tMakeS (cA C) (spF K cA (n + 1) (some 0) F) (WE W) (TAof K cA W g) σ H Q := by
  rintro σ H Q ⟨Z, L, ρ, r, w, p⟩
  refine ⟨Z, L, ρ, r, w, ?_⟩
  unfold dMake at p
  cases hg : g ρ with
  | st => rw [hg] at p; exact p
  | ex e ρ' => rw [hg] at p; exact p
  | ok ds ρ1 =>
    rw [hg] at p
    intro vs H1 Z1 L1 f1 r1 w1 h1 F1
    dsimp only at p
    split at p
    · rename_i xs hx
      split at p
      · rename_i hn
        intro x dx nx ndx ne
        have hL := repA_L hx h1
        have wz := w1.freeze (repL_trk xs hL)
        have hf := repL_zu hL
        have Fz := F1.freeze
        generalize hH2 : upd (upd H1 dx (.own x)) x (.ins (cA C) dx []) = H2
        have kn : ∀ a o, H1 a = some o → H2 a = some o := fun a o e => by rw [← hH2, upd_ne (ne_of_none e nx), upd_ne (ne_of_none e ndx)]; exact e
        have h2x : H2 x = some (.ins (cA C) dx []) := by rw [← hH2]; exact upd_same
        have rx : RepD K cA H2 (ZU Z1 f1) (.n (.ins C []) true []) (.ref x) [x] := ⟨x, [], [], rfl, ⟨rfl, rfl⟩, ⟨⟨dx, h2x⟩, ⟨rfl, hC, fun f m => nomatch m⟩, fun z => nomatch z⟩, rfl, fun z => nomatch z⟩
        have xz : ¬ ZU Z1 f1 x := fun z => by obtain ⟨o, e⟩ := wz.tz x z; rw [nx] at e; cases e
        have w2 : Wf H2 (ZU Z1 f1) (([x] : FP) ++ L1) := ⟨List.nodup_append.mpr ⟨by simp, wz.nd, fun a ha b hb e => by
          have : a = x := by simpa using ha
          subst this e
          obtain ⟨o, e⟩ := relL_trk r1 a hb
          rw [nx] at e; cases e⟩, fun a m => by
            rcases List.mem_append.mp m with m | m
            · have : a = x := by simpa using m
              subst this; exact xz
            · exact wz.dj a m, fun a z => let ⟨o, e⟩ := wz.tz a z; ⟨o, kn a o e⟩⟩
        have r2 : RelL K cA H2 (ZU Z1 f1) ρ1 σ L1 := relL_mono (fun _ z => z) (fun a o _ e => kn a o e) (relL_zu r1)
        have F2 : Fr H Z L H2 (ZU Z1 f1) (([x] : FP) ++ L1) := Fz.trans ⟨fun a o e _ => kn a o e, fun _ z => z, fun _ z => .inl z, fun a m => by
          rcases List.mem_append.mp m with m | m
          · have : a = x := by simpa using m
            subst this; exact .inr nx
          · exact .inl m⟩
        have hall : RepL K cA H2 (ZU Z1 f1) (.n (.ins C []) true [] :: frzL xs) (.ref x :: vs) [x] := ⟨.ref x, vs, [x], [], rfl, rx, repL_mono _ (fun _ z => z) (fun a o _ e => kn a o e) hf, rfl⟩
        refine ⟨by rw [List.length_cons, repL_len hL, hn], _, ZU Z1 f1, [x], hall, w2.less (List.sublist_append_left _ _), ?_⟩
        have wsw : Wf H2 (ZU Z1 f1) (L1 ++ [x]) := w2.swap
        cases hF : F (.n (.ins C []) true [] :: frzL xs) with
        | st => rw [hF] at p; exact p
        | ex e io =>
          rw [hF] at p
          intro cls d H3 Z3 g3 ri w3 x3 F3
          have F3' : Fr H2 (ZU Z1 f1) [x] H3 Z3 [] := F3.less fun a m => nomatch m
          obtain ⟨b1, b2, b3⟩ := hand w2 r2 F3' (wf0 w3)
          exact p cls d H3 Z3 L1 b1 b2 x3 (F2.trans b3)
        | rt d io =>
          rw [hF] at p
          intro v H3 Z3 fp g3 ri h3 w3 F3
          split at p
          · rename_i d1 e
            cases e
            obtain ⟨e1, e2⟩ := h3
            subst e1 e2
            obtain ⟨v', hv', hr'⟩ := ri
            cases hv'
            refine ⟨rfl, ?_⟩
            obtain ⟨b1, b2, b3⟩ := hand w2 r2 F3 w3
            exact p _ H3 Z3 L1 g3 b1 b2 hr' (F2.trans b3)
          · rename_i e; cases e
          · exact p.elim
      · exact p.elim
    · exact p.elim
theorem de_make {C : Str} (hC : Cls X.K (cA C)) (M : Mk X.K (cA C) f) (Fo : FnOk X.prog X.w X.K X.mg X.base (L2.CX X.prog X.w) k f fd ps (spF X.K cA (n + 1) (some 0) F)) (hr : Room (k + 1) X.A) (hg : Gl X x) (hm : X.mg x = some (.ref (cA C))) (hb : Binds X.K fd ps []) (tk : Takes X W)
    (ha : DA X cA W g (e :: es)) (hdb : (x == ("__debug__" : Str)) = false := by kernel_rfl) (he : starEach (e :: es) X.env = (false, eval e X.env) :: starEach es X.env := by kernel_rfl) (hpl : (backTo pos (starEach es X.env)).any (·.1) = false := by kernel_rfl) :
    DE X cA W (dMake C n F g) (.Call (.Name x p) (e :: es) [] pos) := PE.imp (pe_makeS M Fo hr hg hm hb (passAt tk) ha hdb he hpl) (te_make hC)
end

/-! ### pop -/
def dPopAt (i : Nat) (fj : Env → Out D) : Env → Out D := fun ρ => match ρ[i]? with
  | some (some (.n .lst true _)) => (match fj ρ with
    | .ok (.a (.int z)) ρ1 => (match ρ1[i]? with
      | some (some (.n .lst true xs)) => if -1000000 ≤ z ∧ z ≤ 1000000 then (match seqIndex? z xs.length with
        | some j => (match xs[j]? with
          | some d => .ok d (ρ1.set i (some (.lst true (xs.eraseIdx j))))
          | none => .st)
        | none => .st) else .st
      | _ => .st)
    | .ok _ _ => .st
    | .ex e ρ1 => .ex e ρ1
    | .st => .st)
  | _ => .st
section
variable {X : Cx} {cA : Str → Addr} {W : WX} {f : Env → Out D} {e o : Expr} {apos cpos : Pos}
theorem de_popAt {i : Nat} (ho : PE X o (tVar i)) (he : DE X cA W f e)
    (hbase : attributeBase o "pop" X.env (eval o X.env) = eval o X.env := by kernel_rfl)
    (hfew : ((backTo cpos (starEach [e] X.env)).all (fun x => !x.1) && (backToKw cpos (keywordEach [] X.env)).all (fun x => x.1.isSome)
      && decide ([e].length + ([] : List Keyword).length + (if ([] : List Keyword).isEmpty then 0 else 1) < 30)) = true := by kernel_rfl)
    (hline : (apos.endLine == cpos.line) = true := by kernel_rfl) (hs : starEach [e] X.env = (false, eval e X.env) :: starEach [] X.env := by kernel_rfl) : DE X cA W (dPopAt i f) (.Call (.Attribute o "pop" apos) [e] [] cpos) :=
  de_of (pe_bm PySem.F.plainAttrs_list PySem.F.slot_list_pop PySem.F.type_list_pop mt_popAt ho (pa_cons he pa_nil hs) hbase hfew hline hs rfl) fun σ H Q Z L ρ r w p => by
    unfold dPopAt at p
    split at p
    · rename_i zs hz
      obtain ⟨p0, vs0, g0, f0, f2, hv, e0, _, _, _⟩ := relL_own r hz
      refine ⟨_, hv, .inl ⟨rfl, _, SqL.of e0⟩, ?_⟩
      refine post_int (f := f) r w ?_
      cases hf : f ρ with
      | st => rw [hf] at p; exact p
      | ex e ρ1 => rw [hf] at p; exact p
      | ok d1 ρ1 =>
        rw [hf] at p
        cases d1 with
        | n k o xs => exact p.elim
        | a x =>
          cases x with
          | non => exact p.elim
          | bl b => exact p.elim
          | str s => exact p.elim
          | int z =>
            intro H1 Z1 L1 r1 w1 F1
            dsimp only at p
            split at p
            · rename_i xs hx
              split at p
              · rename_i hb
                split at p
                · rename_i j hj
                  split at p
                  · rename_i d hd
                    obtain ⟨q, vs, g, f0', f2', hσ, hp, rx, eL, put⟩ := relL_own r1 hx
                    rw [hv] at hσ
                    cases hσ
                    have len := repL_len rx
                    obtain ⟨v, h0, hfp, h2, hvj, hrd, eg, rer⟩ := repL_erase rx hd
                    show rPopAt (.ref p0) [.int z] H1 Q
                    refine ⟨p0, vs, z, j, v, rfl, rfl, hp, by omega, by omega, by rw [len]; exact hj, hvj, ?_⟩
                    have nd := w1.nd
                    rw [eL, eg] at nd
                    have nd1 := List.nodup_append.mp nd
                    have nd2 := List.nodup_append.mp nd1.1
                    have nd3 := List.nodup_cons.mp nd2.2.1
                    have sub : (h0 ++ h2).Sublist g := by
                      rw [eg, List.append_assoc]
                      exact (List.Sublist.refl h0).append (List.sublist_append_right _ _)
                    have ndg : g.Nodup := by rw [eg]; exact nd3.2
                    have w1' : Wf H1 Z1 (([] : FP) ++ L1) := w1
                    have F1' : Fr H Z L H1 Z1 (([] : FP) ++ L1) := F1
                    obtain ⟨a, b, c⟩ := own_write w1' r1 hp eL hv put rer (fun a m => .inl (sub.subset m)) (ndg.sublist sub) F1'
                    -- the item taken out is in hand
                    have pit : p0 ∉ hfp := fun m => nd3.1 (by simp [m])
                    have kn : ∀ a o, a ≠ p0 → H1 a = some o → upd H1 p0 (.lst (vs.eraseIdx j)) a = some o := fun a o n e => by rw [upd_ne n]; exact e
                    have pz : ¬ Z1 p0 := w1.dj p0 (by rw [eL]; simp)
                    have hrd' : RepD X.K cA (upd H1 p0 (.lst (vs.eraseIdx j))) Z1 d v hfp := repD_mono d (fun _ z => z) (fun a o m e => kn a o (fun z => by
                      subst z
                      exact m.elim pz pit) e) hrd
                    have pm : (hfp ++ (f0' ++ (p0 :: (h0 ++ h2)) ++ f2')).Perm (f0' ++ (p0 :: (h0 ++ hfp ++ h2)) ++ f2') := by
                      have a1 : f0' ++ (p0 :: (h0 ++ hfp ++ h2)) ++ f2' = (f0' ++ (p0 :: h0)) ++ (hfp ++ (h2 ++ f2')) := by simp
                      have a2 : hfp ++ (f0' ++ (p0 :: (h0 ++ h2)) ++ f2') = hfp ++ ((f0' ++ (p0 :: h0)) ++ (h2 ++ f2')) := by simp
                      rw [a1, a2]
                      exact List.perm_append_comm_assoc hfp (f0' ++ (p0 :: h0)) (h2 ++ f2')
                    have wfin : Wf (upd H1 p0 (.lst (vs.eraseIdx j))) Z1 (hfp ++ (f0' ++ (p0 :: (h0 ++ h2)) ++ f2')) := by
                      refine ⟨pm.nodup_iff.mpr nd, fun a m => w1.dj a (by rw [eL, eg]; exact pm.mem_iff.mp m), b.tz⟩
                    exact p v _ Z1 _ hfp a wfin hrd' ⟨c.keep, c.zm, c.zs, fun a m => F1.ls a (by rw [eL, eg]; exact pm.mem_iff.mp m)⟩
                  · exact p.elim
                · exact p.elim
              · exact p.elim
            · exact p.elim
    · exact p.elim
end
end DL
namespace DL
open PySem L2

/-! ### isinstance -/
def tyN : D → Option String
  | .a .non => some "NoneType"
  | .a (.bl _) => some "bool"
  | .a (.int _) => some "int"
  | .a (.str _) => some "str"
  | .n .tup _ _ => some "tuple"
  | .n .lst _ _ => some "list"
  | .n (.dct _) _ _ => some "dict"
  | _ => none
def isiT (t T : String) : Bool := t == T || (t == "bool" && T == "int")
def tyAll : List String := ["NoneType", "bool", "int", "str", "tuple", "list", "dict"]
theorem kit_tab : ∀ t ∈ tyAll, ∀ T ∈ tyAll, kitB t T = some (isiT t T) := by decide +kernel
section
variable {K : PySem.W.Frag} {cA : Str → Addr} {H : Hp} {Z : ZS}
theorem tyN_ok {d : D} {t : String} {v : V} {fp : FP} (e : tyN d = some t) (h : RepD K cA H Z d v fp) : t ∈ tyAll ∧ TyX K H v (.type t) := by
  cases d with
  | a x =>
    obtain ⟨e1, _⟩ := h
    subst e1
    cases x with
    | non => cases e; exact ⟨by decide, .base .non⟩
    | bl b => cases e; exact ⟨by decide, .base (.bl b)⟩
    | int i => cases e; exact ⟨by decide, .base (.int i)⟩
    | str s => cases e; exact ⟨by decide, .base (.str s)⟩
  | n k o xs =>
    cases k with
    | tup =>
      cases e
      obtain ⟨p, vs, rfl, e1, r1, _, _, c⟩ := rep_tup h
      refine ⟨by decide, ?_⟩
      rcases c with ⟨_, r | ⟨o, r⟩⟩ | ⟨o, its, n, hk, hc, _⟩
      · exact .base (.tup r)
      · exact .fTuple r
      · exact .kTuple hk hc
    | lst =>
      cases e
      obtain ⟨p, vs, g, rfl, e1, _⟩ := rep_lst h
      exact ⟨by decide, .base (.lst e1)⟩
    | scr => cases e
    | dct ks =>
      cases e
      obtain ⟨p, vs, g, rfl, hl, hc, _⟩ := h
      exact ⟨by decide, .base (.dK hc.1)⟩
    | ins C fs => cases e
end
def gIsi (T : String) : D → Option D := fun d => match tyN d with
  | some t => some (.bl (isiT t T))
  | none => none
def gIsi2 (T U : String) : D → Option D := fun d => match tyN d with
  | some t => some (.bl (isiT t T || isiT t U))
  | none => none
theorem vu_isi {K : PySem.W.Frag} {cA : Str → Addr} {T : String} (hT : T ∈ tyAll) : VU K cA (fun v H Q => rIsi K [v, .ty T] H Q) (gIsi T) := by
  refine ⟨@fun d1 d v1 H Z f1 Q h1 w hg q => ?_⟩
  unfold gIsi at hg
  split at hg
  · rename_i t e
    cases hg
    obtain ⟨ht, ty⟩ := tyN_ok e h1
    exact ⟨_, _, _, _, _, rfl, .ty T, ty, kit_ty (kit_tab t ht T hT), q _ H Z [] ⟨rfl, rfl⟩ w Fr.refl⟩
  · cases hg
theorem vu_isi2 {K : PySem.W.Frag} {cA : Str → Addr} {T U : String} (hT : T ∈ tyAll) (hU : U ∈ tyAll) : VU K cA (fun v H Q => (2 : Nat) ≤ sizeLine ∧ ∀ p, H p = none → rIsiT K [v, .ref p] (upd H p (.tup [.ty T, .ty U])) Q) (gIsi2 T U) := by
  refine ⟨@fun d1 d v1 H Z f1 Q h1 w hg q => ⟨by rw [sizeLine_eq]; omega, fun p hp => ?_⟩⟩
  unfold gIsi2 at hg
  split at hg
  · rename_i t e
    cases hg
    have kn := keep_new (o := .tup [.ty T, .ty U]) hp
    have h2 : RepD K cA (upd H p (.tup [.ty T, .ty U])) Z d1 v1 f1 := repD_mono d1 (fun _ z => z) (fun a o _ e => kn a o e) h1
    obtain ⟨ht, ty⟩ := tyN_ok e h2
    refine ⟨v1, p, _, _, [.type T, .type U], _, rfl, upd_same, .cons (.ty T) (.cons (.ty U) .nil), ty, ?_, q _ _ Z [] ⟨rfl, rfl⟩ ((wf_new w hp (fun a m => nomatch m)).less (List.nil_sublist _)) ((fr_new hp).less fun a m => nomatch m)⟩
    refine kitAny_cons (kit_ty (kit_tab t ht T hT)) (fun e1 => ?_) fun e1 => by rw [e1]; rfl
    rw [e1]
    refine kitAny_cons (kit_ty (kit_tab t ht U hU)) (fun e2 => ?_) fun e2 => by rw [e2]; rfl
    rw [e2]
    rfl
  · cases hg
section
variable {X : Cx} {cA : Str → Addr} {W : WX} {fa fb : Env → Out D} {a b : Expr} {pos : Pos}
theorem de_isi {x : Str} {T : String} {p q : Pos} (hg : Gl X "isinstance") (hm : X.mg "isinstance" = none) (hg2 : Gl X x) (hm2 : X.mg x = none) (hv2 : bootBuiltins x = some (.type T)) (hT : T ∈ tyAll) (ha : DP X cA W fa a)
    (hn2 : x ≠ "__name__" := by decide +kernel) (hd2 : (x == ("__debug__" : Str)) = false := by kernel_rfl)
    (hs1 : starEach [a, .Name x q] X.env = (false, eval a X.env) :: starEach [.Name x q] X.env := by kernel_rfl) (hs2 : starEach [.Name x q] X.env = (false, eval (.Name x q) X.env) :: starEach [] X.env := by kernel_rfl) (hpl : (backTo pos (starEach [.Name x q] X.env)).any (·.1) = false := by kernel_rfl) :
    DE X cA W (dU (gIsi T) fa) (.Call (.Name "isinstance" p) [a, .Name x q] [] pos) :=
  PE.imp (pe_callB call_isi hg hm PyProof.Rows.boot_isinstance (pa_cons ha (pa_cons (pe_bltn (v := .ty T) hg2 hm2 hv2 rfl hn2 hd2) pa_nil hs2) hs1) (by decide) (by decide) hs1 hpl) (te_un (vu_isi hT))
theorem de_isi2 {x y : Str} {T U : String} {p q q2 q3 : Pos} {kk : Nat} (hg : Gl X "isinstance") (hm : X.mg "isinstance" = none) (hg2 : Gl X x) (hm2 : X.mg x = none) (hv2 : bootBuiltins x = some (.type T)) (hT : T ∈ tyAll) (hg3 : Gl X y) (hm3 : X.mg y = none) (hv3 : bootBuiltins y = some (.type U)) (hU : U ∈ tyAll) (ha : DP X cA W fa a)
    (hn2 : x ≠ "__name__" := by decide +kernel) (hd2 : (x == ("__debug__" : Str)) = false := by kernel_rfl) (hn3 : y ≠ "__name__" := by decide +kernel) (hd3 : (y == ("__debug__" : Str)) = false := by kernel_rfl)
    (hs1 : starEach [a, .Tuple [.Name x q, .Name y q2] kk q3] X.env = (false, eval a X.env) :: starEach [.Tuple [.Name x q, .Name y q2] kk q3] X.env := by kernel_rfl) (hs2 : starEach [.Tuple [.Name x q, .Name y q2] kk q3] X.env = (false, eval (.Tuple [.Name x q, .Name y q2] kk q3) X.env) :: starEach [] X.env := by kernel_rfl) (hpl : (backTo pos (starEach [.Tuple [.Name x q, .Name y q2] kk q3] X.env)).any (·.1) = false := by kernel_rfl)
    (hs3 : starEach [.Name x q, .Name y q2] X.env = (false, eval (.Name x q) X.env) :: starEach [.Name y q2] X.env := by kernel_rfl) (hs4 : starEach [.Name y q2] X.env = (false, eval (.Name y q2) X.env) :: starEach [] X.env := by kernel_rfl) :
    DE X cA W (dU (gIsi2 T U) fa) (.Call (.Name "isinstance" p) [a, .Tuple [.Name x q, .Name y q2] kk q3] [] pos) :=
  PE.imp (pe_callB call_isiT hg hm PyProof.Rows.boot_isinstance (pa_cons ha (pa_cons (pe_tup (pa_cons (pe_bltn (v := .ty T) hg2 hm2 hv2 rfl hn2 hd2) (pa_cons (pe_bltn (v := .ty U) hg3 hm3 hv3 rfl hn3 hd3) pa_nil hs4) hs3)) pa_nil hs2) hs1) (by decide) (by decide) hs1 hpl) (te_un (vu_isi2 hT hU))
/-! ### bit_length -/
abbrev gBits : D → Option D := gI fun i => (Builtin.Int.intBits i : Nat)
theorem de_bits {apos : Pos} (ha : DE X cA W fa a) (hbase : attributeBase a "bit_length" X.env (eval a X.env) = eval a X.env := by kernel_rfl) (hline : (apos.endLine == pos.line) = true := by kernel_rfl) : DE X cA W (dU gBits fa) (.Call (.Attribute a "bit_length" apos) [] [] pos) :=
  PE.imp (pe_bits (dp_de ha) hbase hline) (te_un (vu_i (f := fun i => (Builtin.Int.intBits i : Nat))))
end

theorem gl_of {X : Cx} {x : Str} (h : X.env.scope.names.lookup x = some .globalImplicit := by kernel_rfl) : Gl X x := h
theorem pvl {X : Cx} (i : Nat) {x : Str} {pos : Pos} (hN : X.N[i]? = some x := by kernel_rfl) (hv : X.env.scope.names.lookup x = some .local := by kernel_rfl) (hd : (x == ("__debug__" : Str)) = false := by kernel_rfl) (hc : (x == ("__classdict__" : Str)) = false := by kernel_rfl) : PE X (.Name x pos) (tVar i) := pe_var hN (.inl hv) hd hc
theorem pvc {X : Cx} (i : Nat) {x : Str} {pos : Pos} (hN : X.N[i]? = some x := by kernel_rfl) (hv : X.env.scope.names.lookup x = some .cell := by kernel_rfl) (hd : (x == ("__debug__" : Str)) = false := by kernel_rfl) (hc : (x == ("__classdict__" : Str)) = false := by kernel_rfl) : PE X (.Name x pos) (tVar i) := pe_var hN (.inr (.inl hv)) hd hc
theorem pvf {X : Cx} (i : Nat) {x : Str} {pos : Pos} (hN : X.N[i]? = some x := by kernel_rfl) (hv : X.env.scope.names.lookup x = some .free := by kernel_rfl) (hd : (x == ("__debug__" : Str)) = false := by kernel_rfl) (hc : (x == ("__classdict__" : Str)) = false := by kernel_rfl) : PE X (.Name x pos) (tVar i) := pe_var hN (.inr (.inr hv)) hd hc
/-- a value that is looked at, frozen -/
def dDp (f : Env → Out D) : Env → Out D := fun ρ => match f ρ with
  | .ok d ρ1 => if isF d = true then .ok d ρ1 else .st
  | .ex e ρ1 => .ex e ρ1
  | .st => .st
theorem de_dpN {X : Cx} {cA : Str → Addr} {W : WX} {f : Env → Out D} {e : Expr} (h : DP X cA W f e) : DE X cA W (dDp f) e := de_dp h
def dFrz (i : Nat) (f : Env → Fl) : Env → Fl := dSeq f fun ρ => match ρ[i]? with | some (some d) => .nx (ρ.set i (some (frz d))) | _ => .nx ρ
theorem ds_frzN {X : Cx} {cA : Str → Addr} {W : WX} {k : Option Nat} {f : Env → Fl} {st : Stmt} (i : Nat) (h : DS X cA W k f st) (hk : k ≠ some i := by decide) : DS X cA W k (dFrz i f) st := ds_frz i h hk
theorem room_u1 {k : Nat} {A : Around} (r : Room k A) : A.units + 65 < cLine := by have := r.un; omega
/-! ### a def as data, its promise -/
structure OkC (P : Program) (w : World) (K : PySem.W.Frag) (mg : Str → Option Value) (base : Heap) (f : Addr) (ps : List Str) (k : Nat) (sp : Sp) : Prop where
  ex : ∃ fd, FnOk P w K mg base (L2.CX P w) k f fd ps sp ∧ Binds K fd ps []
section
variable {P : Program} {w : World} {K : PySem.W.Frag} {cA : Str → Addr} {mg : Str → Option Value} {base : Heap}
theorem fn_okF0 {x qual : Str} {params : Arguments} {stb : List Stmt} {scope : Scope} {f : Addr} {fd : FuncData} {N ps : List Str} {k : Nat} {kio : Option Nat} {body : Env → Fl} (F : FunD K x qual params stb scope [] [] f fd) (S : FnScope N ps scope)
    (hb : ∀ (cdv : Value) (A : Around) (outer : List PySem.Env) (s : Shared) (H : Hp) (E : XK), Room k (A.deeper (PyProof.Rows.envOfC qual scope s.heap.objs.size f cdv)) →
      DSs (cxOf (L2.CX P w) P w K mg base N qual scope f cdv A outer s H E) cA (fun cls d _ H' => E cls d H') kio body stb) :
    FnOk P w K mg base (L2.CX P w) (k + 1) f fd ps (spF K cA ps.length kio (fnD N.length kio body)) := by
  refine F.ok S (fun vs H Q E h => h.1) fun cdv A outer s H vs Q E hr h => ?_
  obtain ⟨hl, ds, Z, L, r, wf, p⟩ := h
  refine ⟨_, hb cdv A outer s H E hr, ?_⟩
  have e : N.length - ds.length = N.length - vs.length := by rw [repL_len r]
  refine ⟨Z, L, ds.map some ++ List.replicate (N.length - vs.length) none, relL_start r, wf, ?_⟩
  unfold fnD at p
  rw [e] at p
  cases hbo : body (ds.map some ++ List.replicate (N.length - vs.length) none) with
  | st => rw [hbo] at p; exact p
  | bk ρ => rw [hbo] at p; exact p.elim
  | ct ρ => rw [hbo] at p; exact p.elim
  | nx ρ =>
    rw [hbo] at p
    intro σ' H' Z' L' r' w' F' pn
    obtain ⟨g, hg, ri⟩ := io_end (σ0 := σ') r' pn
    exact p _ H' Z' [] g ri ⟨rfl, rfl⟩ (w'.less hg) (F'.less fun x m => hg.subset m)
  | rt d ρ =>
    rw [hbo] at p
    intro v σ' H' Z' L' fp r' w' h' F' pn
    obtain ⟨g, hg, ri⟩ := io_end (σ0 := σ') r' pn
    exact p v H' Z' fp g ri h' (wf_sub2 w' hg) (fr_sub2 F' hg)
  | ex e ρ =>
    rw [hbo] at p
    intro cls d σ' H' Z' L' r' w' x' F' pn
    obtain ⟨g, hg, ri⟩ := io_end (σ0 := σ') r' pn
    exact p cls d H' Z' g ri (w'.less hg) x' (F'.less fun x m => hg.subset m)
theorem fn_okD0 {x qual : Str} {params : Arguments} {stb : List Stmt} {scope : Scope} {f : Addr} {N ps : List Str} {k : Nat} {kio : Option Nat} {body : Env → Fl} (F : ∃ fd, FunD K x qual params stb scope [] [] f fd) (S : FnScope N ps scope)
    (hbi : ∀ (kV doc pm : Value) (an : Option Addr) (cdv ct : Value) (us : List Value), us.length = ps.length → bindArgs (PySem.W.fnOf x qual params stb scope .none kV doc pm an cdv ct) ⟨us, []⟩ = pure (ps.zip us))
    (hb : ∀ (cdv : Value) (A : Around) (outer : List PySem.Env) (s : Shared) (H : Hp) (E : XK), Room k (A.deeper (PyProof.Rows.envOfC qual scope s.heap.objs.size f cdv)) →
      DSs (cxOf (L2.CX P w) P w K mg base N qual scope f cdv A outer s H E) cA (fun cls d _ H' => E cls d H') kio body stb) :
    OkC P w K mg base f ps (k + 1) (spF K cA ps.length kio (fnD N.length kio body)) :=
  let ⟨fd, F⟩ := F
  ⟨fd, fn_okF0 F S hb, F.bindsN hbi⟩
theorem fn_okF {x qual : Str} {params : Arguments} {stb : List Stmt} {scope : Scope} {f : Addr} {fd : FuncData} {N ps : List Str} {k n m : Nat} {kio : Option Nat} {body : Env → Fl} (F : FunD K x qual params stb scope [] [] f fd) (S : FnScope N ps scope)
    (hb : ∀ (cdv : Value) (A : Around) (outer : List PySem.Env) (s : Shared) (H : Hp) (E : XK), Room k (A.deeper (PyProof.Rows.envOfC qual scope s.heap.objs.size f cdv)) →
      DSs (cxOf (L2.CX P w) P w K mg base N qual scope f cdv A outer s H E) cA (fun cls d _ H' => E cls d H') kio body stb) (hn : ps.length = n := by kernel_rfl) (hm : N.length = m := by kernel_rfl) :
    FnOk P w K mg base (L2.CX P w) (k + 1) f fd ps (spF K cA n kio (fnD m kio body)) := by
  subst hn hm
  exact fn_okF0 F S hb
theorem fn_okD {x qual : Str} {params : Arguments} {stb : List Stmt} {scope : Scope} {f : Addr} {N ps : List Str} {k n m : Nat} {kio : Option Nat} {body : Env → Fl} (F : ∃ fd, FunD K x qual params stb scope [] [] f fd) (S : FnScope N ps scope)
    (hbi : ∀ (kV doc pm : Value) (an : Option Addr) (cdv ct : Value) (us : List Value), us.length = ps.length → bindArgs (PySem.W.fnOf x qual params stb scope .none kV doc pm an cdv ct) ⟨us, []⟩ = pure (ps.zip us))
    (hb : ∀ (cdv : Value) (A : Around) (outer : List PySem.Env) (s : Shared) (H : Hp) (E : XK), Room k (A.deeper (PyProof.Rows.envOfC qual scope s.heap.objs.size f cdv)) →
      DSs (cxOf (L2.CX P w) P w K mg base N qual scope f cdv A outer s H E) cA (fun cls d _ H' => E cls d H') kio body stb) (hn : ps.length = n := by kernel_rfl) (hm : N.length = m := by kernel_rfl) :
    OkC P w K mg base f ps (k + 1) (spF K cA n kio (fnD m kio body)) := by
  subst hn hm
  exact fn_okD0 F S hbi hb
theorem takes_cx {N : List Str} {qual : Str} {scope : Scope} {f : Addr} {cdv : Value} {A : Around} {outer : List PySem.Env} {s : Shared} {H : Hp} {E : XK} : Takes (cxOf (L2.CX P w) P w K mg base N qual scope f cdv A outer s H E) (fun cls d _ H' => E cls d H') := takes_of rfl rfl rfl rfl
theorem passes_cx {N : List Str} {qual : Str} {scope : Scope} {f : Addr} {cdv : Value} {A : Around} {outer : List PySem.Env} {s : Shared} {H : Hp} {E : XK} :
    PassesOwn (model (cxOf (L2.CX P w) P w K mg base N qual scope f cdv A outer s H E).prog (cxOf (L2.CX P w) P w K mg base N qual scope f cdv A outer s H E).w) (cxOf (L2.CX P w) P w K mg base N qual scope f cdv A outer s H E).A (cxOf (L2.CX P w) P w K mg base N qual scope f cdv A outer s H E).env (cxOf (L2.CX P w) P w K mg base N qual scope f cdv A outer s H E).xe := passes_of rfl
end
section
variable {X : Cx} {cA : Str → Addr} {W : WX} {g : Env → Out (List Ag)} {fa : Env → Out D} {o e : Expr} {es : List Expr} {x m : Str} {f : Addr} {ps : List Str} {k n : Nat} {kio : Option Nat} {F : List D → FR} {p pos apos : Pos}
theorem de_callG (Fo : OkC X.prog X.w X.K X.mg X.base f ps k (spF X.K cA n kio F)) (hr : Room k X.A) (hg : Gl X x) (hm : X.mg x = some (.ref f) ∧ PySem.W.keepIn X.K (.ref f) = true) (tk : Takes X W) (ha : DA X cA W g (e :: es)) (hdb : (x == ("__debug__" : Str)) = false := by kernel_rfl)
    (he : starEach (e :: es) X.env = (false, eval e X.env) :: starEach es X.env := by kernel_rfl) (hpl : (backTo pos (starEach es X.env)).any (·.1) = false := by kernel_rfl) : DE X cA W (dCall n F g) (.Call (.Name x p) (e :: es) [] pos) :=
  let ⟨fd, Fo, hb⟩ := Fo.ex
  de_call Fo hr hg hm.1 hm.2 hb tk ha hdb he hpl
theorem de_callLG (Fo : OkC X.prog X.w X.K X.mg X.base f ps k (spF X.K cA n kio F)) (hr : Room k X.A) (hg : Gl X x) (hm : X.mg x = some (.ref f) ∧ PySem.W.keepIn X.K (.ref f) = true) (tk : Takes X W) (ha : DA X cA W g (e :: es)) (hdb : (x == ("__debug__" : Str)) = false := by kernel_rfl)
    (he : starEach (e :: es) X.env = (false, eval e X.env) :: starEach es X.env := by kernel_rfl) (hpl : (backTo pos (starEach es X.env)).any (·.1) = false := by kernel_rfl) : DE X cA W (dCallL n kio F g) (.Call (.Name x p) (e :: es) [] pos) :=
  let ⟨fd, Fo, hb⟩ := Fo.ex
  de_callL Fo hr hg hm.1 hm.2 hb tk ha hdb he hpl
end
/-! ### the end -/
theorem repL_ints {K : PySem.W.Frag} {cA : Str → Addr} {H : Hp} {Z : ZS} : ∀ ns : List Int, RepL K cA H Z (ns.map D.int) (ns.map V.int) []
  | [] => ⟨rfl, rfl⟩
  | n :: ns => ⟨.int n, ns.map V.int, [], [], rfl, ⟨rfl, rfl⟩, repL_ints ns, rfl⟩
theorem law_sp {K : PySem.W.Frag} {cA : Str → Addr} {F : List D → FR} {H : Hp} {a : Addr} {ns : List Int} (hS : SqL K H a (ns.map V.int)) (law : F [.scr (ns.map D.int)] = .rt (.bl true) none) : spF K cA 1 none F [.ref a] H (fun v _ => v = .bl true) fun _ _ _ => False := by
  have fin : ∀ Z : ZS, Wf H Z [] → Cont K cA H Z a (ns.map V.int) .scr false → spF K cA 1 none F [.ref a] H (fun v _ => v = .bl true) fun _ _ _ => False := by
    intro Z w c
    refine ⟨rfl, [.scr (ns.map D.int)], Z, [], ⟨.ref a, [], [], [], rfl, ⟨a, ns.map V.int, [], rfl, repL_ints ns, c, rfl, fun _ => rfl⟩, ⟨rfl, rfl⟩, rfl⟩, w, ?_⟩
    rw [law]
    intro v H' Z' fp g hi hd _ _
    exact hd.1
  rcases hS with r | r
  · refine fin (fun b => b = a) ⟨List.nodup_nil, fun a m => (nomatch m), fun b e => ?_⟩ ⟨rfl, .inl ⟨rfl, r⟩⟩
    subst e
    rcases r with r | ⟨o, r⟩
    · exact ⟨_, r⟩
    · exact ⟨_, r⟩
  · exact fin (fun _ => False) ⟨List.nodup_nil, fun a m => (nomatch m), fun b e => e.elim⟩ ⟨rfl, .inr r⟩
theorem law_end {l : PySem.W.OpenLaw} {k : Nat} {q : Program} {loose : List Str} {XP : (Str → Option Value) → Heap → Prop} {YP : World → Heap → Prop} {d : DefRec} {x : Str} {cA : PySem.W.Frag → Str → Addr} {F : List D → FR}
    (hn : l.most = some 63) (hdf : d.params.defaults = []) (hr : Room k callerA)
    (HF : ∀ (w : World) (mg : Str → Option Value) (fa : Addr) (h : Heap), YP w h → h.Ns mainGlobals mg → mg d.name = some (.ref fa) →
      ∃ (K : PySem.W.Frag) (fd : FuncData), K.In h ∧ (∀ (s : Shared) (u : Value), BindsTo s fd ⟨[u], []⟩ [(x, u)]) ∧
        ∀ base : Heap, K.In base → base.Ns mainGlobals mg → FnOk l.prog w K mg base (L2.CX l.prog w) k fa fd [x] (spF K (cA K) 1 none F))
    (law : ∀ ns : List Int, ns.length ≤ 63 → (∀ z ∈ ns, Builtin.Int.intBits z ≤ 1048576) → F [.scr (ns.map D.int)] = .rt (.bl true) none) :
    PySem.W.WalkO q loose XP YP l.row.toRowW d [] (fun f vs => PySem.call f vs) := by
  refine Att.attach_callB hn hdf fun w s₀ s₁ mg mb fa o pm cd doc a vs ns G Y ho hd hcd hmg hobj hints hlen hbits hg => ?_
  obtain ⟨K, fd, KX, hb, hF⟩ := HF w mg fa _ Y G.T.g hmg
  refine law_call KX G.T.g G.T.b G.T.builtins G.T.nolimit hg hobj hints (Nat.le_trans hlen (by rw [sizeLine_eq]; omega)) hr hF hb (fun H hO hS => law_sp hS (law ns hlen hbits)) fun H e s' z => ?_
  obtain ⟨_, _, _, _, _, _, _, _, _, _, _, _, z⟩ := z
  exact z.elim
end DL
namespace DL
open PySem L2

section
variable {X : Cx} {cA : Str → Addr} {W : WX} {g : Env → Out (List Ag)} {fa fb : Env → Out D} {a b o e : Expr} {es : List Expr} {x m : Str} {f : Addr} {ps : List Str} {k n : Nat} {kio : Option Nat} {F : List D → FR} {p pos apos : Pos}
theorem de_call0G (Fo : OkC X.prog X.w X.K X.mg X.base f ps k (spF X.K cA 0 none F)) (hr : Room k X.A) (hg : Gl X x) (hm : X.mg x = some (.ref f) ∧ PySem.W.keepIn X.K (.ref f) = true) (tk : Takes X W) (hdb : (x == ("__debug__" : Str)) = false := by kernel_rfl) : DE X cA W (dCall0 F) (.Call (.Name x p) [] [] pos) :=
  let ⟨fd, Fo, hb⟩ := Fo.ex
  de_call0 Fo hr hg hm.1 hm.2 hb tk hdb
theorem de_methG {C : Str} {pl : Sem Bool} (ho : DE X cA W fa o) (c : Cls X.K (cA C)) (hm : Meth X.K (cA C) m f) (Fo : OkC X.prog X.w X.K X.mg X.base f ps k (spF X.K cA (n + 1) kio F)) (hr : Room k X.A) (tk : Takes X W) (ha : DA X cA W g (e :: es))
    (hst : starEach (e :: es) X.env = (false, eval e X.env) :: starEach es X.env := by kernel_rfl) (hpl : (backTo pos (starEach es X.env)).any (·.1) = false := by kernel_rfl)
    (ht : eval (.Call (.Attribute o m apos) (e :: es) [] pos) X.env = (do
      let ov ← eval o X.env
      standAt apos.atName
      let (f, first) ← holding [ov] (getMethod ov m pl)
      callWith pos f first (backTo pos (starEach (e :: es) X.env)) (backToKw pos (keywordEach [] X.env))) := by rfl) :
    DE X cA W (dMeth C m n F fa g) (.Call (.Attribute o m apos) (e :: es) [] pos) :=
  let ⟨fd, Fo, hb⟩ := Fo.ex
  de_meth ho c hm Fo hr hb tk ha hst hpl ht
theorem de_meth0G {C : Str} {pl : Sem Bool} (ho : DE X cA W fa o) (c : Cls X.K (cA C)) (hm : Meth X.K (cA C) m f) (Fo : OkC X.prog X.w X.K X.mg X.base f ps k (spF X.K cA (0 + 1) kio F)) (hr : Room k X.A) (tk : Takes X W)
    (ht : eval (.Call (.Attribute o m apos) [] [] pos) X.env = (do
      let ov ← eval o X.env
      standAt apos.atName
      let (f, first) ← holding [ov] (getMethod ov m pl)
      callWith pos f first (backTo pos (starEach [] X.env)) (backToKw pos (keywordEach [] X.env))) := by rfl) :
    DE X cA W (dMeth C m 0 F fa dANil) (.Call (.Attribute o m apos) [] [] pos) :=
  let ⟨fd, Fo, hb⟩ := Fo.ex
  de_meth0 ho c hm Fo hr hb tk ht
theorem de_makeG {C : Str} (hC : Cls X.K (cA C)) (M : Mk X.K (cA C) f) (Fo : OkC X.prog X.w X.K X.mg X.base f ps k (spF X.K cA (n + 1) (some 0) F)) (hr : Room (k + 1) X.A) (hg : Gl X x) (hm : X.mg x = some (.ref (cA C))) (tk : Takes X W)
    (ha : DA X cA W g (e :: es)) (hdb : (x == ("__debug__" : Str)) = false := by kernel_rfl) (he : starEach (e :: es) X.env = (false, eval e X.env) :: starEach es X.env := by kernel_rfl) (hpl : (backTo pos (starEach es X.env)).any (·.1) = false := by kernel_rfl) :
    DE X cA W (dMake C n F g) (.Call (.Name x p) (e :: es) [] pos) :=
  let ⟨fd, Fo, hb⟩ := Fo.ex
  de_make hC M Fo hr hg hm hb tk ha hdb he hpl
end
/-! ### list(range(..)) -/
def gLRng : D → Option D
  | .a (.int n) => if -4611686018427387904 ≤ n ∧ n ≤ 16777216 then some (.lst true (intL 0 n.toNat)) else none
  | _ => none
def gTRng : D → Option D
  | .a (.int n) => if -4611686018427387904 ≤ n ∧ n ≤ 16777216 then some (.tup (intL 0 n.toNat)) else none
  | _ => none
theorem repL_rgV {K : PySem.W.Frag} {cA : Str → Addr} {H : Hp} {Z : ZS} (n : Int) : RepL K cA H Z (intL 0 n.toNat) (rgV 0 n) [] := by
  have e1 : intL 0 n.toNat = ((List.range n.toNat).map fun (i : Nat) => (0 : Int) + (i : Int)).map D.int := by unfold intL; rw [List.map_map]; rfl
  have e2 : rgV 0 n = ((List.range n.toNat).map fun (i : Nat) => (0 : Int) + (i : Int)).map V.int := by unfold rgV; rw [List.map_map, Int.sub_zero]; rfl
  rw [e1, e2]
  exact repL_ints _
theorem vu_lrng {K : PySem.W.Frag} {cA : Str → Addr} : VU K cA (fun v H Q => ∃ n, v = .int n ∧ RgOk 0 n ∧ ∀ q, H q = none → Q (.ref q) (upd H q (.lst (rgV 0 n)))) gLRng := by
  refine ⟨@fun d1 d v1 H Z f1 Q h1 w hg q => ?_⟩
  unfold gLRng at hg
  split at hg
  · rename_i n
    split at hg
    · rename_i hc
      cases hg
      obtain ⟨e, _⟩ := h1
      subst e
      refine ⟨n, rfl, ⟨by omega, by omega, by omega, by omega, by omega⟩, fun p hp => ?_⟩
      obtain ⟨a, b, c⟩ := new_lst w (repL_rgV (K := K) (cA := cA) (H := H) (Z := Z) n) hp
      exact q _ _ _ _ a b c
    · cases hg
  · cases hg
section
variable {X : Cx} {cA : Str → Addr} {W : WX} {fa fb : Env → Out D} {a b : Expr} {pos p p2 pos2 : Pos}
theorem de_listRng (hc : X.calm = true) (hg : Gl X "list") (hm : X.mg "list" = none) (hg2 : Gl X "range") (hm2 : X.mg "range" = none) (ha : DE X cA W fa a) (na : starEach [a] X.env = (false, eval a X.env) :: starEach [] X.env := by kernel_rfl)
    (na2 : starEach [.Call (.Name "range" p2) [a] [] pos2] X.env = (false, eval (.Call (.Name "range" p2) [a] [] pos2) X.env) :: starEach [] X.env := by kernel_rfl) :
    DE X cA W (dU gLRng fa) (.Call (.Name "list" p) [.Call (.Name "range" p2) [a] [] pos2] [] pos) :=
  PE.imp (pe_listRg hc hg hm (prg_1 hg2 hm2 (dp_de ha) na) na2) (te_un vu_lrng)
end
/-! ### any, all, sum, max, min, sorted -/
def blsOf : List D → Option (List Bool)
  | [] => some []
  | .a (.bl b) :: xs => (blsOf xs).map (b :: ·)
  | _ :: _ => none
def intsOf : List D → Option (List Int)
  | [] => some []
  | .a (.int i) :: xs => (intsOf xs).map (i :: ·)
  | _ :: _ => none
section
variable {K : PySem.W.Frag} {cA : Str → Addr} {H : Hp} {Z : ZS}
theorem blsOf_rep : ∀ {xs : List D} {bs : List Bool} {vs : List V} {g : FP}, blsOf xs = some bs → RepL K cA H Z xs vs g → vs = bs.map V.bl
  | [], bs, vs, g, e, h => by
    cases e
    exact h.1
  | x :: xs, bs, vs, g, e, h => by
    obtain ⟨v, vs', f1, f2, ev, h1, h2, _⟩ := h
    subst ev
    cases x with
    | n _ _ _ => cases e
    | a y =>
      cases y with
      | bl b =>
        unfold blsOf at e
        cases e2 : blsOf xs with
        | none => rw [e2] at e; cases e
        | some bs' =>
          rw [e2] at e
          cases e
          obtain ⟨e3, _⟩ := h1
          subst e3
          rw [blsOf_rep e2 h2]
          rfl
      | non => cases e
      | int i => cases e
      | str s => cases e
theorem intsOf_rep : ∀ {xs : List D} {bs : List Int} {vs : List V} {g : FP}, intsOf xs = some bs → RepL K cA H Z xs vs g → vs = bs.map V.int
  | [], bs, vs, g, e, h => by
    cases e
    exact h.1
  | x :: xs, bs, vs, g, e, h => by
    obtain ⟨v, vs', f1, f2, ev, h1, h2, _⟩ := h
    subst ev
    cases x with
    | n _ _ _ => cases e
    | a y =>
      cases y with
      | int b =>
        unfold intsOf at e
        cases e2 : intsOf xs with
        | none => rw [e2] at e; cases e
        | some bs' =>
          rw [e2] at e
          cases e
          obtain ⟨e3, _⟩ := h1
          subst e3
          rw [intsOf_rep e2 h2]
          rfl
      | non => cases e
      | bl i => cases e
      | str s => cases e
end
def gAny : D → Option D
  | .n .lst _ xs => (blsOf xs).map fun bs => .bl (bs.any id)
  | _ => none
def gAll : D → Option D
  | .n .lst _ xs => (blsOf xs).map fun bs => .bl (bs.all id)
  | _ => none
def gSum : D → Option D
  | .n .lst _ xs => (intsOf xs).map fun ns => .int ns.sum
  | _ => none
def gMax1 : D → Option D
  | .n .lst _ xs => (match intsOf xs with
    | some ns => ns.max?.map D.int
    | none => none)
  | _ => none
def gMin1 : D → Option D
  | .n .lst _ xs => (match intsOf xs with
    | some ns => ns.min?.map D.int
    | none => none)
  | _ => none
/-- sorted, by insertion -/
def insI (a : Int) : List Int → List Int
  | [] => [a]
  | b :: bs => if a ≤ b then a :: b :: bs else b :: insI a bs
def sortI : List Int → List Int
  | [] => []
  | a :: as => insI a (sortI as)
theorem insI_perm (a : Int) : ∀ bs : List Int, (insI a bs).Perm (a :: bs)
  | [] => List.Perm.refl _
  | b :: bs => by
    unfold insI
    split
    · exact List.Perm.refl _
    · exact ((insI_perm a bs).cons b).trans (List.Perm.swap a b bs)
theorem sortI_perm : ∀ as : List Int, (sortI as).Perm as
  | [] => List.Perm.refl _
  | a :: as => (insI_perm a (sortI as)).trans ((sortI_perm as).cons a)
theorem insI_sorted (a : Int) : ∀ bs : List Int, bs.Pairwise (· ≤ ·) → (insI a bs).Pairwise (· ≤ ·)
  | [], _ => List.pairwise_singleton _ _
  | b :: bs, h => by
    unfold insI
    have hb := List.pairwise_cons.mp h
    split
    · rename_i hab
      exact List.pairwise_cons.mpr ⟨fun c hc => by
        rcases List.mem_cons.mp hc with e | e
        · omega
        · have := hb.1 c e; omega, h⟩
    · rename_i hab
      refine List.pairwise_cons.mpr ⟨fun c hc => ?_, insI_sorted a bs hb.2⟩
      rcases List.mem_cons.mp ((insI_perm a bs).mem_iff.mp hc) with e | e
      · omega
      · exact hb.1 c e
theorem sortI_sorted : ∀ as : List Int, (sortI as).Pairwise (· ≤ ·)
  | [] => List.Pairwise.nil
  | a :: as => insI_sorted a _ (sortI_sorted as)
theorem sorted_uniq : ∀ {as bs : List Int}, as.Pairwise (· ≤ ·) → bs.Pairwise (· ≤ ·) → as.Perm bs → as = bs
  | [], bs, _, _, p => (List.nil_perm.mp p).symm ▸ rfl
  | a :: as, [], _, _, p => by
    have := p.length_eq
    simp at this
  | a :: as, b :: bs, ha, hb, p => by
    have ha' := List.pairwise_cons.mp ha
    have hb' := List.pairwise_cons.mp hb
    have m1 : a ∈ b :: bs := p.mem_iff.mp (by simp)
    have m2 : b ∈ a :: as := p.mem_iff.mpr (by simp)
    have h1 : b ≤ a := by
      rcases List.mem_cons.mp m1 with e | e
      · omega
      · exact hb'.1 a e
    have h2 : a ≤ b := by
      rcases List.mem_cons.mp m2 with e | e
      · omega
      · exact ha'.1 b e
    have e : a = b := by omega
    subst e
    rw [sorted_uniq ha'.2 hb'.2 ((List.perm_cons a).mp p)]
def gSortI : D → Option D
  | .n .lst _ xs => (intsOf xs).map fun ns => .lst true ((sortI ns).map D.int)
  | _ => none
section
variable {K : PySem.W.Frag} {cA : Str → Addr}
theorem vc_any : VC1 K cA (rAny K) gAny := by
  refine ⟨@fun d1 d v1 H Z f1 Q h1 w hg q => ?_⟩
  unfold gAny at hg
  split at hg
  · rename_i o xs
    obtain ⟨p, vs, g, rfl, e1, r1, _⟩ := rep_lst h1
    cases e : blsOf xs with
    | none => rw [e] at hg; cases hg
    | some bs =>
      rw [e] at hg
      cases hg
      have ev := blsOf_rep e r1
      subst ev
      exact ⟨p, bs, rfl, SqL.of e1, q _ H Z [] ⟨rfl, rfl⟩ w Fr.refl⟩
  · cases hg
theorem vc_all : VC1 K cA (rAll K) gAll := by
  refine ⟨@fun d1 d v1 H Z f1 Q h1 w hg q => ?_⟩
  unfold gAll at hg
  split at hg
  · rename_i o xs
    obtain ⟨p, vs, g, rfl, e1, r1, _⟩ := rep_lst h1
    cases e : blsOf xs with
    | none => rw [e] at hg; cases hg
    | some bs =>
      rw [e] at hg
      cases hg
      have ev := blsOf_rep e r1
      subst ev
      exact ⟨p, bs, rfl, SqL.of e1, q _ H Z [] ⟨rfl, rfl⟩ w Fr.refl⟩
  · cases hg
theorem vc_sum : VC1 K cA (rSum K) gSum := by
  refine ⟨@fun d1 d v1 H Z f1 Q h1 w hg q => ?_⟩
  unfold gSum at hg
  split at hg
  · rename_i o xs
    obtain ⟨p, vs, g, rfl, e1, r1, _⟩ := rep_lst h1
    cases e : intsOf xs with
    | none => rw [e] at hg; cases hg
    | some bs =>
      rw [e] at hg
      cases hg
      have ev := intsOf_rep e r1
      subst ev
      exact ⟨p, bs, rfl, SqL.of e1, q _ H Z [] ⟨rfl, rfl⟩ w Fr.refl⟩
  · cases hg
theorem vc_max1 : VC1 K cA (rMax K) gMax1 := by
  refine ⟨@fun d1 d v1 H Z f1 Q h1 w hg q => ?_⟩
  unfold gMax1 at hg
  split at hg
  · rename_i o xs
    obtain ⟨p, vs, g, rfl, e1, r1, _⟩ := rep_lst h1
    cases e : intsOf xs with
    | none => rw [e] at hg; cases hg
    | some bs =>
      rw [e] at hg
      dsimp only at hg
      cases e2 : bs.max? with
      | none => rw [e2] at hg; cases hg
      | some z =>
        rw [e2] at hg
        cases hg
        have ev := intsOf_rep e r1
        subst ev
        have hz := List.max?_eq_some_iff.mp e2
        refine ⟨p, bs, rfl, SqL.of e1, List.length_pos_of_mem hz.1, fun m hm hb => ?_⟩
        have e3 : m = z := Int.le_antisymm (hz.2 m hm) (hb z hz.1)
        subst e3
        exact q _ H Z [] ⟨rfl, rfl⟩ w Fr.refl
  · cases hg
theorem vc_min1 : VC1 K cA (rMin K) gMin1 := by
  refine ⟨@fun d1 d v1 H Z f1 Q h1 w hg q => ?_⟩
  unfold gMin1 at hg
  split at hg
  · rename_i o xs
    obtain ⟨p, vs, g, rfl, e1, r1, _⟩ := rep_lst h1
    cases e : intsOf xs with
    | none => rw [e] at hg; cases hg
    | some bs =>
      rw [e] at hg
      dsimp only at hg
      cases e2 : bs.min? with
      | none => rw [e2] at hg; cases hg
      | some z =>
        rw [e2] at hg
        cases hg
        have ev := intsOf_rep e r1
        subst ev
        have hz := List.min?_eq_some_iff.mp e2
        refine ⟨p, bs, rfl, SqL.of e1, List.length_pos_of_mem hz.1, fun m hm hb => ?_⟩
        have e3 : m = z := Int.le_antisymm (hb z hz.1) (hz.2 m hm)
        subst e3
        exact q _ H Z [] ⟨rfl, rfl⟩ w Fr.refl
  · cases hg
theorem vc_sort : VC1 K cA (rSortedI K) gSortI := by
  refine ⟨@fun d1 d v1 H Z f1 Q h1 w hg q => ?_⟩
  unfold gSortI at hg
  split at hg
  · rename_i o xs
    obtain ⟨p, vs, g, rfl, e1, r1, _⟩ := rep_lst h1
    cases e : intsOf xs with
    | none => rw [e] at hg; cases hg
    | some bs =>
      rw [e] at hg
      cases hg
      have ev := intsOf_rep e r1
      subst ev
      refine ⟨p, bs, rfl, SqL.of e1, fun ns' p' hp hs hn => ?_⟩
      have e3 : ns' = sortI bs := sorted_uniq hs (sortI_sorted bs) (hp.trans (sortI_perm bs).symm)
      subst e3
      obtain ⟨a, b, c⟩ := new_lst w (repL_ints (K := K) (cA := cA) (H := H) (Z := Z) (sortI bs)) hn
      exact q _ _ _ _ a b c
  · cases hg
end
def gMax2 : D → D → Option D := gII (fun _ _ => true) fun i j => if j > i then j else i
def gMin2 : D → D → Option D := gII (fun _ _ => true) fun i j => if j < i then j else i
theorem vop_call2 {K : PySem.W.Frag} {cA : Str → Addr} {f : Int → Int → Int} : VOp2 K cA (fun x y H Q => ∃ i j, [x, y] = [V.int i, V.int j] ∧ Q (V.int (f i j)) H) (gII (fun _ _ => true) f) := vop_at fun d1 d2 d hg => by
  unfold gII at hg
  split at hg
  · rename_i i j
    split at hg
    · cases hg
      exact ⟨_, _, _, rfl, rfl, rfl, fun H Q q => ⟨i, j, rfl, q⟩⟩
    · cases hg
  · cases hg
theorem boot_max : bootBuiltins "max" = some (.builtin "max") := by decide +kernel
theorem boot_min : bootBuiltins "min" = some (.builtin "min") := by decide +kernel
theorem boot_sum : bootBuiltins "sum" = some (.builtin "sum") := by decide +kernel
theorem boot_any : bootBuiltins "any" = some (.builtin "any") := by decide +kernel
theorem boot_all : bootBuiltins "all" = some (.builtin "all") := by decide +kernel
theorem boot_sorted : bootBuiltins "sorted" = some (.builtin "sorted") := by decide +kernel
section
variable {X : Cx} {cA : Str → Addr} {W : WX} {fa fb : Env → Out D} {a b : Expr} {p pos : Pos}
theorem de_any (hc : X.calm = true) (hg : Gl X "any") (hm : X.mg "any" = none) (ha : DP X cA W fa a) (hs : starEach [a] X.env = (false, eval a X.env) :: starEach [] X.env := by kernel_rfl) : DE X cA W (dU gAny fa) (.Call (.Name "any" p) [a] [] pos) :=
  de_callB (cr_any hc) vc_any hg hm boot_any ha (by decide) (by decide) hs hs
theorem de_all (hc : X.calm = true) (hg : Gl X "all") (hm : X.mg "all" = none) (ha : DP X cA W fa a) (hs : starEach [a] X.env = (false, eval a X.env) :: starEach [] X.env := by kernel_rfl) : DE X cA W (dU gAll fa) (.Call (.Name "all" p) [a] [] pos) :=
  de_callB (cr_all hc) vc_all hg hm boot_all ha (by decide) (by decide) hs hs
theorem de_sum (hc : X.calm = true) (hg : Gl X "sum") (hm : X.mg "sum" = none) (ha : DP X cA W fa a) (hs : starEach [a] X.env = (false, eval a X.env) :: starEach [] X.env := by kernel_rfl) : DE X cA W (dU gSum fa) (.Call (.Name "sum" p) [a] [] pos) :=
  de_callB (cr_sum hc) vc_sum hg hm boot_sum ha (by decide) (by decide) hs hs
theorem de_max1 (hc : X.calm = true) (hg : Gl X "max") (hm : X.mg "max" = none) (ha : DP X cA W fa a) (hs : starEach [a] X.env = (false, eval a X.env) :: starEach [] X.env := by kernel_rfl) : DE X cA W (dU gMax1 fa) (.Call (.Name "max" p) [a] [] pos) :=
  de_callB (cr_max hc) vc_max1 hg hm boot_max ha (by decide) (by decide) hs hs
theorem de_min1 (hc : X.calm = true) (hg : Gl X "min") (hm : X.mg "min" = none) (ha : DP X cA W fa a) (hs : starEach [a] X.env = (false, eval a X.env) :: starEach [] X.env := by kernel_rfl) : DE X cA W (dU gMin1 fa) (.Call (.Name "min" p) [a] [] pos) :=
  de_callB (cr_min hc) vc_min1 hg hm boot_min ha (by decide) (by decide) hs hs
theorem de_sort (hg : Gl X "sorted") (hm : X.mg "sorted" = none) (ha : DP X cA W fa a) (hs : starEach [a] X.env = (false, eval a X.env) :: starEach [] X.env := by kernel_rfl) : DE X cA W (dU gSortI fa) (.Call (.Name "sorted" p) [a] [] pos) :=
  de_callB cr_sortedI vc_sort hg hm boot_sorted ha (by decide) (by decide) hs hs
theorem de_max2 (hc : X.calm = true) (hg : Gl X "max") (hm : X.mg "max" = none) (ha : DE X cA W fa a) (hb : DE X cA W fb b) (hs1 : starEach [a, b] X.env = (false, eval a X.env) :: starEach [b] X.env := by kernel_rfl) (hs2 : starEach [b] X.env = (false, eval b X.env) :: starEach [] X.env := by kernel_rfl)
    (hpl : (backTo pos (starEach [b] X.env)).any (·.1) = false := by kernel_rfl) : DE X cA W (dOp2 gMax2 fa fb) (.Call (.Name "max" p) [a, b] [] pos) :=
  PE.imp (pe_callB (call_max2 hc) hg hm boot_max (pa_cons ha (pa_cons hb pa_nil hs2) hs1) (by decide) (by decide) hs1 hpl) (te_op2 vop_call2)
theorem de_min2 (hc : X.calm = true) (hg : Gl X "min") (hm : X.mg "min" = none) (ha : DE X cA W fa a) (hb : DE X cA W fb b) (hs1 : starEach [a, b] X.env = (false, eval a X.env) :: starEach [b] X.env := by kernel_rfl) (hs2 : starEach [b] X.env = (false, eval b X.env) :: starEach [] X.env := by kernel_rfl)
    (hpl : (backTo pos (starEach [b] X.env)).any (·.1) = false := by kernel_rfl) : DE X cA W (dOp2 gMin2 fa fb) (.Call (.Name "min" p) [a, b] [] pos) :=
  PE.imp (pe_callB (call_min2 hc) hg hm boot_min (pa_cons ha (pa_cons hb pa_nil hs2) hs1) (by decide) (by decide) hs1 hpl) (te_op2 vop_call2)
end
end DL
namespace DL
open PySem L2

/-! ### comprehensions of two loops -/
theorem wipe_in {τ : L2.St} : ∀ {vs : List Nat} {i : Nat}, i ∈ vs → i < τ.length → (wipe τ vs)[i]? = some none := by
  intro vs
  induction vs with
  | nil => intro i h; cases h
  | cons v vs ih =>
    intro i h hl
    unfold wipe
    by_cases e : v = i
    · subst e
      rw [List.getElem?_set_self (by rw [wipe_length]; exact hl)]
    · rw [List.getElem?_set_ne e]
      rcases List.mem_cons.mp h with z | z
      · exact absurd z.symm e
      · exact ih z hl
theorem wipe_wipe {τ : L2.St} {vs1 vs : List Nat} (h : ∀ i ∈ vs1, i ∈ vs) : wipe (wipe τ vs1) vs = wipe τ vs := by
  apply List.ext_getElem?
  intro i
  by_cases hi : i ∈ vs
  · by_cases hl : i < τ.length
    · rw [wipe_in hi (by rw [wipe_length]; exact hl), wipe_in hi hl]
    · rw [List.getElem?_eq_none (by rw [wipe_length, wipe_length]; omega), List.getElem?_eq_none (by rw [wipe_length]; omega)]
  · rw [wipe_out hi, wipe_out hi, wipe_out fun m => hi (h i m)]
theorem wipeE_fix : ∀ (us : List Nat) (ρ : Env), (∀ i ∈ us, i < ρ.length → ρ[i]? = some none) → wipeE ρ us = ρ := by
  intro us
  induction us with
  | nil => intro ρ _; rfl
  | cons v us ih =>
    intro ρ h
    unfold wipeE
    rw [ih ρ fun i m => h i (by simp [m])]
    apply List.ext_getElem?
    intro j
    by_cases e : v = j
    · subst e
      by_cases hl : v < ρ.length
      · rw [List.getElem?_set_self hl, h v (by simp) hl]
      · rw [List.getElem?_eq_none (by rw [List.length_set]; omega), List.getElem?_eq_none (by omega)]
    · rw [List.getElem?_set_ne e]
theorem wipeE_idem (ρ : Env) (vs : List Nat) : wipeE ρ vs = wipeE (wipeE ρ vs) vs := by
  refine (wipeE_fix vs (wipeE ρ vs) fun i m hl => ?_).symm
  cases hx : (wipeE ρ vs)[i]? with
  | none =>
    have := List.getElem?_eq_none_iff.mp hx
    omega
  | some o =>
    cases o with
    | none => rfl
    | some d => exact absurd m (wipeE_some hx).1
/-- the inner turns, the items behind acc -/
def lcA (vs : List Nat) (g : D → Env → Option Env) (t : Env → Out Bool) (f : Env → Out D) : List D → Env → List D → Out (List D)
  | [], ρ, acc => .ok acc ρ
  | d :: ds, ρ, acc => match g d ρ with
    | none => .st
    | some ρ1 => match t ρ1 with
      | .ok true ρ2 => (match f ρ2 with
        | .ok y ρ3 => if acc.length < cap then lcA vs g t f ds (wipeE ρ3 vs) (acc ++ [y]) else .st
        | _ => .st)
      | .ok false ρ2 => lcA vs g t f ds (wipeE ρ2 vs) acc
      | _ => .st
def lcB (vs vs1 : List Nat) (g : D → Env → Option Env) (t : Env → Out Bool) (src1 : Env → Out (List D)) (g1 : D → Env → Option Env) (t1 : Env → Out Bool) (f : Env → Out D) : List D → Env → List D → Out (List D)
  | [], ρ, acc => .ok acc ρ
  | d :: ds, ρ, acc => match g d ρ with
    | none => .st
    | some ρ1 => match t ρ1 with
      | .ok true ρ2 => (match src1 ρ2 with
        | .ok ds1 ρ3 => (match lcA vs1 g1 t1 f ds1 (wipeE ρ3 vs1) acc with
          | .ok acc' ρ4 => lcB vs vs1 g t src1 g1 t1 f ds (wipeE ρ4 vs) acc'
          | _ => .st)
        | _ => .st)
      | .ok false ρ2 => lcB vs vs1 g t src1 g1 t1 f ds (wipeE ρ2 vs) acc
      | _ => .st
def dLc2 (vs vs1 : List Nat) (src : Env → Out (List D)) (g : D → Env → Option Env) (t : Env → Out Bool) (src1 : Env → Out (List D)) (g1 : D → Env → Option Env) (t1 : Env → Out Bool) (f : Env → Out D) : Env → Out D := fun ρ => match src ρ with
  | .ok ds ρ1 => (match lcB vs vs1 g t src1 g1 t1 f ds (wipeE ρ1 vs) [] with
    | .ok ys ρ2 => .ok (.lst true ys) (backE ρ1 vs (wipeE ρ2 vs))
    | _ => .st)
  | .ex e ρ1 => .ex e ρ1
  | .st => .st
section
variable {K : PySem.W.Frag} {cA : Str → Addr}
/-- the list waits -/
theorem lcs_move {Hs H H' : Hp} {Zs Z Z' : ZS} {Ls L M g : FP} {q : Addr} {acc : List D} {vacc : List V} (w : Wf H Z ((q :: g) ++ L)) (hq : H q = some (.lst vacc)) (ra : RepL K cA H Z acc vacc g) (F : Fr Hs Zs Ls H Z ((q :: g) ++ L)) (FC : Fr H Z L H' Z' M) (w' : Wf H' Z' M) :
    Wf H' Z' ((q :: g) ++ M) ∧ (∃ vacc', H' q = some (.lst vacc') ∧ RepL K cA H' Z' acc vacc' g) ∧ Fr Hs Zs Ls H' Z' ((q :: g) ++ M) := by
  have rq : RepD K cA H Z (.lst true acc) (.ref q) (q :: g) := ⟨q, vacc, g, rfl, ra, ⟨hq, fun z => nomatch z⟩, rfl, fun z => nomatch z⟩
  have rqB := repD_wait w rq FC
  obtain ⟨p0, vs0, g0, e0, e1, e2, e3, _⟩ := rep_lst rqB
  cases e0
  rw [if_pos rfl] at e3
  cases e3
  exact ⟨w.wait (repD_trk _ rq) FC w', ⟨vs0, e1, e2⟩, F.wait w FC⟩
end
section
variable {X : Cx} {cA : Str → Addr} {W : WX} {src src1 : Env → Out (List D)} {ts ts1 : List Nat} {g g1 : D → Env → Option Env} {t t1 : Env → Out Bool} {f : Env → Out D} {iter iter1 tg tgB elt : Expr} {ifs ifs1 : List Expr} {scope : Scope} {own : List (Str × Nat)} {vs1 : List Nat} {pos : Pos}
theorem te_lc2 {K : PySem.W.Frag} (hsub : ∀ i ∈ ts, i ∈ own.map (·.2)) (hv : ∀ i ∈ vs1, i ∈ own.map (·.2)) (hs1 : ∀ i ∈ ts1, i ∈ vs1) : ∀ σ H Q, TEof K cA W (dLc2 (own.map (·.2)) vs1 src g t src1 g1 t1 f) σ H Q →
    tLc2 (TIof K cA W src) (TGof K cA ts g) (TTof K cA WN t) (TIof K cA WN src1) (TGof K cA ts1 g1) (TTof K cA WN t1) (TEof K cA WN f) (own.map (·.2)) vs1 σ H Q := by
  generalize hvs : own.map (·.2) = vs at hsub hv ⊢
  rintro σ H Q ⟨Z, L, ρ, r, w, p⟩
  refine ⟨Z, L, ρ, r, w, ?_⟩
  unfold dLc2 at p
  cases hsrc : src ρ with
  | st => rw [hsrc] at p; exact p
  | ex e ρ1 => rw [hsrc] at p; exact p
  | ok ds ρ1 =>
    rw [hsrc] at p
    dsimp only at p
    intro J H1 Z1 L1 r1 w1 F1 hit q hq
    obtain ⟨Lw, sw, rw'⟩ := relL_wipe r1 vs
    have kn := keep_new (o := .lst []) hq
    refine ⟨fun i m Hi => m = ds.length - i ∧ i ≤ ds.length ∧ ∃ Zi Li ρi acc vacc gacc, RelL K cA Hi Zi ρi (wipe σ vs) Li ∧ Wf Hi Zi ((q :: gacc) ++ Li) ∧ Hi q = some (.lst vacc) ∧ RepL K cA Hi Zi acc vacc gacc ∧ Fr H1 Z1 L1 Hi Zi ((q :: gacc) ++ Li) ∧ ρi = wipeE ρi vs ∧
      (match lcB vs vs1 g t src1 g1 t1 f (ds.drop i) ρi acc with
        | .ok ys ρ2 => PostE K cA W σ H Z L Q (.ok (.lst true ys) (backE ρ1 vs (wipeE ρ2 vs)))
        | _ => False), ⟨_, rfl, Nat.zero_le _, Z1, Lw, wipeE ρ1 vs, [], [], [], ?_, ?_, upd_same, ⟨rfl, rfl⟩, ?_, wipeE_idem _ _, ?_⟩, ?_⟩
    · exact relL_mono (fun _ z => z) (fun a o _ e => kn a o e) rw'
    · exact wf_new (w1.less sw) hq (fun a m => relL_trk rw' a m)
    · exact (fr_new hq).less fun x m => by
        rcases List.mem_cons.mp m with z | z
        · simp [z]
        · simp [sw.subset (by simpa using z)]
    · rw [List.drop_zero]
      cases hl : lcB vs vs1 g t src1 g1 t1 f ds (wipeE ρ1 vs) [] with
      | ok ys ρ2 => rw [hl] at p; exact p
      | ex e ρ2 => rw [hl] at p; exact p
      | st => rw [hl] at p; exact p
    rintro i m Hi ⟨rfl, hil, Zi, Li, ρi, acc, vacc, gacc, ri, wi, hqi, ra, Fi, hwi, qi⟩
    have wiL : Wf Hi Zi Li := wi.less (List.sublist_append_right _ _)
    have FiL : Fr H1 Z1 L1 Hi Zi Li := Fi.less fun x m => by simp [m]
    obtain ⟨tn, stp⟩ := it_turn hit w1 FiL ri wiL i
    cases hd : ds[i]? with
    | none =>
      left
      have hl : ds.length ≤ i := List.getElem?_eq_none_iff.mp hd
      refine ⟨stp hl, ?_⟩
      rw [List.drop_eq_nil_of_le hl] at qi
      have qi : PostE K cA W σ H Z L Q (.ok (.lst true acc) (backE ρ1 vs (wipeE ρi vs))) := qi
      have rq : RepD K cA Hi Zi (.lst true acc) (.ref q) (q :: gacc) := ⟨q, vacc, gacc, rfl, ra, ⟨hqi, fun z => nomatch z⟩, rfl, fun z => nomatch z⟩
      have ri' := ri
      rw [hwi] at ri'
      obtain ⟨L', hs', rb⟩ := relL_back r1 Fi.zm (fun a o z e => Fi.keep a o e fun m => w1.dj a m z) vs ri'
      have hsub2 : ((q :: gacc) ++ L').Sublist ((q :: gacc) ++ Li) := (List.Sublist.refl _).append hs'
      exact qi (.ref q) Hi Zi L' (q :: gacc) rb (wi.less hsub2) rq (F1.trans (Fi.less fun x m => hsub2.subset m))
    | some d =>
      right
      obtain ⟨go, yl⟩ := tn d hd
      have hlt : i < ds.length := (List.getElem?_eq_some_iff.mp hd).1
      rw [drop_cons' hd] at qi
      unfold lcB at qi
      refine ⟨go, fun H' => ∃ Z' L' ρ' acc' vacc' gacc', RelL K cA H' Z' ρ' (wipe σ vs) L' ∧ Wf H' Z' ((q :: gacc') ++ L') ∧ H' q = some (.lst vacc') ∧ RepL K cA H' Z' acc' vacc' gacc' ∧ Fr H1 Z1 L1 H' Z' ((q :: gacc') ++ L') ∧ ρ' = wipeE ρ' vs ∧
        (match lcB vs vs1 g t src1 g1 t1 f (ds.drop (i + 1)) ρ' acc' with
          | .ok ys ρ2 => PostE K cA W σ H Z L Q (.ok (.lst true ys) (backE ρ1 vs (wipeE ρ2 vs)))
          | _ => False), ?_, fun x H' y => ?_⟩
      · rintro H' ⟨Z', L', ρ', acc', vacc', gacc', a1, a2, a3, a4, a6, a7, a8⟩
        exact ⟨ds.length - (i + 1), by omega, rfl, hlt, Z', L', ρ', acc', vacc', gacc', a1, a2, a3, a4, a6, a7, a8⟩
      · obtain ⟨Z2, r2, w2, F2, h2⟩ := yl x H' y
        cases hgd : g d ρi with
        | none => rw [hgd] at qi; exact qi.elim
        | some ρa =>
          rw [hgd] at qi
          refine ⟨d, Z2, Li, ρi, ρa, r2, w2, h2, hgd, fun σa Ha Za La ra' wa Fa ba => ?_⟩
          have hwσ := wipe_but hsub ba
          refine ⟨hwσ, ?_⟩
          have FA : Fr Hi Zi Li Ha Za La := F2.trans Fa
          refine ⟨Za, La, ρa, ra', wa, ?_⟩
          dsimp only at qi
          cases ht : t ρa with
          | st => rw [ht] at qi; exact qi
          | ex e ρ2 => rw [ht] at qi; exact qi.elim
          | ok bb ρ2 =>
            rw [ht] at qi
            intro Hb Zb Lb rb wb Fb
            have FB : Fr Hi Zi Li Hb Zb Lb := FA.trans Fb
            cases bb with
            | false =>
              rw [if_neg Bool.false_ne_true]
              obtain ⟨Lw2, sw2, rw2⟩ := relL_wipe rb vs
              rw [hwσ] at rw2
              obtain ⟨m1, ⟨vs0, e1, e2⟩, m3⟩ := lcs_move wi hqi ra Fi FB wb
              have sub3 : ((q :: gacc) ++ Lw2).Sublist ((q :: gacc) ++ Lb) := (List.Sublist.refl _).append sw2
              exact ⟨Zb, Lw2, wipeE ρ2 vs, acc, vs0, gacc, rw2, m1.less sub3, e1, e2, m3.less fun x m => sub3.subset m, wipeE_idem ρ2 vs, qi⟩
            | true =>
              rw [if_pos rfl]
              dsimp only at qi
              refine ⟨Zb, Lb, ρ2, rb, wb, ?_⟩
              cases hs2 : src1 ρ2 with
              | st => rw [hs2] at qi; exact qi
              | ex e ρ3 => rw [hs2] at qi; exact qi.elim
              | ok ds1 ρ3 =>
                rw [hs2] at qi
                intro J1 H4 Z4 L4 r4 w4 F4 hit1
                dsimp only at qi
                have FC : Fr Hi Zi Li H4 Z4 L4 := FB.trans F4
                obtain ⟨m1, ⟨vs0, e1, e2⟩, m3⟩ := lcs_move wi hqi ra Fi FC w4
                obtain ⟨Lw2, sw2, rw2⟩ := relL_wipe r4 vs1
                have sub3 : ((q :: gacc) ++ Lw2).Sublist ((q :: gacc) ++ L4) := (List.Sublist.refl _).append sw2
                refine ⟨fun j k Hj => k = ds1.length - j ∧ j ≤ ds1.length ∧ ∃ Zj Lj ρj accj vaccj gj, RelL K cA Hj Zj ρj (wipe σa vs1) Lj ∧ Wf Hj Zj ((q :: gj) ++ Lj) ∧ Hj q = some (.lst vaccj) ∧ RepL K cA Hj Zj accj vaccj gj ∧ Fr H4 Z4 ((q :: gacc) ++ L4) Hj Zj ((q :: gj) ++ Lj) ∧ ρj = wipeE ρj vs1 ∧
                  (match lcA vs1 g1 t1 f (ds1.drop j) ρj accj with
                    | .ok acc' ρ4 => (match lcB vs vs1 g t src1 g1 t1 f (ds.drop (i + 1)) (wipeE ρ4 vs) acc' with
                      | .ok ys ρ2 => PostE K cA W σ H Z L Q (.ok (.lst true ys) (backE ρ1 vs (wipeE ρ2 vs)))
                      | _ => False)
                    | _ => False), ⟨_, rfl, Nat.zero_le _, Z4, Lw2, wipeE ρ3 vs1, acc, vs0, gacc, rw2, m1.less sub3, e1, e2, Fr.refl.less fun x m => sub3.subset m, wipeE_idem _ _, ?_⟩, ?_⟩
                · rw [List.drop_zero]
                  cases hl : lcA vs1 g1 t1 f ds1 (wipeE ρ3 vs1) acc with
                  | ok acc' ρ4 => rw [hl] at qi; exact qi
                  | ex e ρ4 => rw [hl] at qi; exact qi
                  | st => rw [hl] at qi; exact qi
                rintro j k Hj ⟨rfl, hjl, Zj, Lj, ρj, accj, vaccj, gj, rj, wj, hqj, raj, Fj, hwj, qj⟩
                have wjL : Wf Hj Zj Lj := wj.less (List.sublist_append_right _ _)
                have FjL : Fr H4 Z4 ((q :: gacc) ++ L4) Hj Zj Lj := Fj.less fun x m => by simp [m]
                obtain ⟨tn1, stp1⟩ := it_turn hit1 m1 FjL rj wjL j
                cases hd1 : ds1[j]? with
                | none =>
                  left
                  have hl : ds1.length ≤ j := List.getElem?_eq_none_iff.mp hd1
                  refine ⟨stp1 hl, ?_⟩
                  rw [List.drop_eq_nil_of_le hl] at qj
                  obtain ⟨Lw5, sw5, rw5⟩ := relL_wipe rj vs
                  rw [wipe_wipe hv, hwσ] at rw5
                  have sub5 : ((q :: gj) ++ Lw5).Sublist ((q :: gj) ++ Lj) := (List.Sublist.refl _).append sw5
                  exact ⟨Zj, Lw5, wipeE ρj vs, accj, vaccj, gj, rw5, wj.less sub5, hqj, raj, m3.trans (Fj.less fun x m => sub5.subset m), wipeE_idem ρj vs, qj⟩
                | some d1 =>
                  right
                  obtain ⟨go1, yl1⟩ := tn1 d1 hd1
                  have hlt1 : j < ds1.length := (List.getElem?_eq_some_iff.mp hd1).1
                  rw [drop_cons' hd1] at qj
                  unfold lcA at qj
                  refine ⟨go1, fun H' => ∃ Zj Lj ρj accj vaccj gj, RelL K cA H' Zj ρj (wipe σa vs1) Lj ∧ Wf H' Zj ((q :: gj) ++ Lj) ∧ H' q = some (.lst vaccj) ∧ RepL K cA H' Zj accj vaccj gj ∧ Fr H4 Z4 ((q :: gacc) ++ L4) H' Zj ((q :: gj) ++ Lj) ∧ ρj = wipeE ρj vs1 ∧
                    (match lcA vs1 g1 t1 f (ds1.drop (j + 1)) ρj accj with
                      | .ok acc' ρ4 => (match lcB vs vs1 g t src1 g1 t1 f (ds.drop (i + 1)) (wipeE ρ4 vs) acc' with
                        | .ok ys ρ2 => PostE K cA W σ H Z L Q (.ok (.lst true ys) (backE ρ1 vs (wipeE ρ2 vs)))
                        | _ => False)
                      | _ => False), ?_, fun x1 H5 y1 => ?_⟩
                  · rintro H' ⟨Z', L', ρ', acc', vacc', gacc', a1, a2, a3, a4, a6, a7, a8⟩
                    exact ⟨ds1.length - (j + 1), by omega, rfl, hlt1, Z', L', ρ', acc', vacc', gacc', a1, a2, a3, a4, a6, a7, a8⟩
                  · obtain ⟨Z5, r5, w5, F5, h5⟩ := yl1 x1 H5 y1
                    cases hgd1 : g1 d1 ρj with
                    | none => rw [hgd1] at qj; exact qj.elim
                    | some ρb =>
                      rw [hgd1] at qj
                      refine ⟨d1, Z5, Lj, ρj, ρb, r5, w5, h5, hgd1, fun σb H6 Z6 L6 r6 w6 F6 bb6 => ?_⟩
                      have hwσ1 := wipe_but hs1 bb6
                      refine ⟨hwσ1, ?_⟩
                      have FA6 : Fr Hj Zj Lj H6 Z6 L6 := F5.trans F6
                      refine ⟨Z6, L6, ρb, r6, w6, ?_⟩
                      dsimp only at qj
                      cases ht1 : t1 ρb with
                      | st => rw [ht1] at qj; exact qj
                      | ex e ρ6 => rw [ht1] at qj; exact qj.elim
                      | ok b7 ρ7 =>
                        rw [ht1] at qj
                        intro H7 Z7 L7 r7 w7 F7
                        have FB7 : Fr Hj Zj Lj H7 Z7 L7 := FA6.trans F7
                        cases b7 with
                        | false =>
                          rw [if_neg Bool.false_ne_true]
                          obtain ⟨Lw8, sw8, rw8⟩ := relL_wipe r7 vs1
                          rw [hwσ1] at rw8
                          obtain ⟨n1, ⟨vs8, e8, e9⟩, n3⟩ := lcs_move wj hqj raj Fj FB7 w7
                          have sub8 : ((q :: gj) ++ Lw8).Sublist ((q :: gj) ++ L7) := (List.Sublist.refl _).append sw8
                          exact ⟨Z7, Lw8, wipeE ρ7 vs1, accj, vs8, gj, rw8, n1.less sub8, e8, e9, n3.less fun x m => sub8.subset m, wipeE_idem ρ7 vs1, qj⟩
                        | true =>
                          rw [if_pos rfl]
                          dsimp only at qj
                          refine ⟨Z7, L7, ρ7, r7, w7, ?_⟩
                          cases hfv : f ρ7 with
                          | st => rw [hfv] at qj; exact qj
                          | ex e ρ8 => rw [hfv] at qj; exact qj.elim
                          | ok yv ρ8 =>
                            rw [hfv] at qj
                            intro v H8 Z8 L8 fp8 r8 w8 h8 F8
                            dsimp only at qj
                            by_cases hcap : accj.length < cap
                            case neg => rw [if_neg hcap] at qj; exact qj.elim
                            rw [if_pos hcap] at qj
                            have FC8 : Fr Hj Zj Lj H8 Z8 (fp8 ++ L8) := FB7.trans F8
                            obtain ⟨n1, ⟨vs8, e8, e9⟩, n3⟩ := lcs_move wj hqj raj Fj FC8 w8
                            have len := repL_len e9
                            refine ⟨vs8, e8, cap_lt (by omega), ?_⟩
                            obtain ⟨b1, b2, b3, b4⟩ := acc_put n1 e8 e9 h8 r8 n3
                            obtain ⟨Lw9, sw9, rw9⟩ := relL_wipe b2 vs1
                            rw [hwσ1] at rw9
                            have sub9 : ((q :: (gj ++ fp8)) ++ Lw9).Sublist ((q :: (gj ++ fp8)) ++ L8) := (List.Sublist.refl _).append sw9
                            exact ⟨Z8, Lw9, wipeE ρ8 vs1, accj ++ [yv], vs8 ++ [v], gj ++ fp8, rw9, b3.less sub9, upd_same, b1, b4.less fun x m => sub9.subset m, wipeE_idem ρ8 vs1, qj⟩
theorem de_lc2 (hc : X.calm = true) (hN : X.N.Nodup) (hi : DI X cA W src tg iter) (ok : BlkOk X.N X.env.scope scope own) (hsub : ∀ i ∈ ts, i ∈ own.map (·.2)) (hv : ∀ i ∈ ts1, i ∈ own.map (·.2))
    (hg : ∀ (s : Shared) (H : Hp) (C : Addr) (cl : List (Str × Addr)) (fp : List Addr), DG (X.blk s H scope (compEnvC scope cl C X.env) fp) cA ts g tg)
    (ht : ∀ (s : Shared) (H : Hp) (C : Addr) (cl : List (Str × Addr)) (fp : List Addr), DTs (X.blk s H scope (compEnvC scope cl C X.env) fp) cA WN t ifs)
    (hi1 : ∀ (s : Shared) (H : Hp) (C : Addr) (cl : List (Str × Addr)) (fp : List Addr), DI (X.blk s H scope (compEnvC scope cl C X.env) fp) cA WN src1 tgB iter1)
    (hg1 : ∀ (s : Shared) (H : Hp) (C : Addr) (cl : List (Str × Addr)) (fp : List Addr), DG (X.blk s H scope (compEnvC scope cl C X.env) fp) cA ts1 g1 tgB)
    (ht1 : ∀ (s : Shared) (H : Hp) (C : Addr) (cl : List (Str × Addr)) (fp : List Addr), DTs (X.blk s H scope (compEnvC scope cl C X.env) fp) cA WN t1 ifs1)
    (he : ∀ (s : Shared) (H : Hp) (C : Addr) (cl : List (Str × Addr)) (fp : List Addr), DE (X.blk s H scope (compEnvC scope cl C X.env) fp) cA WN f elt)
    (hs : ∀ x, foldedSetIterable iter X.env x = pure x := by intro _; kernel_rfl) (hs1 : ∀ env x, foldedSetIterable iter1 env x = pure x := by intro _ _; kernel_rfl) :
    DE X cA W (dLc2 (own.map (·.2)) ts1 src g t src1 g1 t1 f) (.ListComp elt [⟨tg, iter, ifs, 0⟩, ⟨tgB, iter1, ifs1, 0⟩] scope pos) :=
  PE.imp (pe_lc2 (vs1 := ts1) (g := TGof X.K cA ts g) (tt := TTof X.K cA WN t) (wi1 := TIof X.K cA WN src1) (g1 := TGof X.K cA ts1 g1) (tt1 := TTof X.K cA WN t1) (te := TEof X.K cA WN f) hc hN hi ok hv hg ht hi1 hg1 ht1 he hs hs1) (te_lc2 hsub hv fun _ m => m)
theorem ds_setLc2 {k : Option Nat} {i : Nat} {y : Str} {py spos : Pos} (hc : X.calm = true) (hN : X.N.Nodup) (hy : X.N[i]? = some y) (hyl : X.env.scope.names.lookup y = some .local)
    (hsw : swapsWith (.ListComp elt [⟨tg, iter, ifs, 0⟩, ⟨tgB, iter1, ifs1, 0⟩] scope pos) (some (.Name y py)) spos.line X.env = pure true) (hi : DI X cA W src tg iter) (ok : BlkOk X.N X.env.scope scope own) (hsub : ∀ i ∈ ts, i ∈ own.map (·.2)) (hv : ∀ i ∈ ts1, i ∈ own.map (·.2))
    (hg : ∀ (s : Shared) (H : Hp) (C : Addr) (cl : List (Str × Addr)) (fp : List Addr), DG (X.blk s H scope (compEnvC scope cl C X.env) fp) cA ts g tg)
    (ht : ∀ (s : Shared) (H : Hp) (C : Addr) (cl : List (Str × Addr)) (fp : List Addr), DTs (X.blk s H scope (compEnvC scope cl C X.env) fp) cA WN t ifs)
    (hi1 : ∀ (s : Shared) (H : Hp) (C : Addr) (cl : List (Str × Addr)) (fp : List Addr), DI (X.blk s H scope (compEnvC scope cl C X.env) fp) cA WN src1 tgB iter1)
    (hg1 : ∀ (s : Shared) (H : Hp) (C : Addr) (cl : List (Str × Addr)) (fp : List Addr), DG (X.blk s H scope (compEnvC scope cl C X.env) fp) cA ts1 g1 tgB)
    (ht1 : ∀ (s : Shared) (H : Hp) (C : Addr) (cl : List (Str × Addr)) (fp : List Addr), DTs (X.blk s H scope (compEnvC scope cl C X.env) fp) cA WN t1 ifs1)
    (he : ∀ (s : Shared) (H : Hp) (C : Addr) (cl : List (Str × Addr)) (fp : List Addr), DE (X.blk s H scope (compEnvC scope cl C X.env) fp) cA WN f elt) (hk : k ≠ some i := by decide)
    (hs : ∀ x, foldedSetIterable iter X.env x = pure x := by intro _; kernel_rfl) (hs1 : ∀ env x, foldedSetIterable iter1 env x = pure x := by intro _ _; kernel_rfl) :
    DS X cA W k (dBind (dLc2 (own.map (·.2)) ts1 src g t src1 g1 t1 f) (stSet i)) (.Assign [.Name y py] (.ListComp elt [⟨tg, iter, ifs, 0⟩, ⟨tgB, iter1, ifs1, 0⟩] scope pos) spos) :=
  ds_of (L2.ps_setLc2 (vs1 := ts1) (g := TGof X.K cA ts g) (tt := TTof X.K cA WN t) (wi1 := TIof X.K cA WN src1) (g1 := TGof X.K cA ts1 g1) (tt1 := TTof X.K cA WN t1) (te := TEof X.K cA WN f) hc hN hy hyl hsw hi ok hv hg ht hi1 hg1 ht1 he hs hs1) fun T σ H Z L ρ r w p => te_lc2 hsub hv (fun _ m => m) σ H _ (bind_te r w p fun d ρ1 v H1 Z1 L1 fp hd r1 w1 h1 F1 p => put_slot hk r1 w1 h1 F1 p)
end
end DL
namespace DL
open PySem L2 PyProof.Rows

/-! ### an own == -/
section
variable {X : Cx} {cA : Str → Addr} {C : Str} {f : Addr} {fd : FuncData} {ps : List Str} {k : Nat} {kio : Option Nat} {F : List D → FR}
/-- f(a, b) below a running body -/
theorem run_own {A : Around} {pins : List (Addr × Obj)} {σ : L2.St} {H : Hp} {s : Shared} {a b : Addr} {Q : VK} (Fo : FnOk X.prog X.w X.K X.mg X.base (L2.CX X.prog X.w) k f fd ps (spF X.K cA 2 kio F)) (hr : Room k A) (hfr : A.frames = X.A.frames) (hb : Binds X.K fd ps []) (I : Inv X pins σ H s)
    (hsp : spF X.K cA 2 kio F [.ref a, .ref b] H (fun v H' => ∃ t, v = .bl t ∧ Q v H') E0) :
    wpAny (model X.prog X.w) A (call (.ref f) [.ref a, .ref b]) (fun v s' => ∃ t H', v = .bool t ∧ Inv X pins σ H' s' ∧ Q (.bl t) H') X.xe s := by
  have e0 : Env0 X.prog X.w X.K X.mg X.base A X.stack s H := by
    have e := I.env0
    exact ⟨by rw [hfr]; exact e.frames, e.mod, e.bs, e.bsz, e.funs, e.frf, e.hok, e.bare⟩
  have hl := Fo.len _ _ _ _ hsp
  have r2 : Vals [V.ref a, V.ref b] [Value.ref a, Value.ref b] := .cons rfl (.cons rfl .nil)
  refine wpAny_call (codeAny_mono (Fo.run A X.stack s H ⟨[.ref a, .ref b], []⟩ [.ref a, .ref b] [.ref a, .ref b] _ E0 hr e0 (by
    have := hb s [.ref a, .ref b] I.kIn (by simpa using hl)
    simpa using this) r2 hsp) fun r s' hq => ?_)
  cases r with
  | error e => exact passL pins σ H s e s' I hq
  | ok fl =>
    cases fl with
    | ret w =>
      obtain ⟨z, H', I', rz, t, ez, q⟩ := I.after hq
      subst ez
      cases rz
      exact ⟨t, H', rfl, I', q⟩
    | next => exact False.elim hq
    | brk => exact False.elim hq
    | cont => exact False.elim hq
def rOwn (K : PySem.W.Frag) (cA : Str → Addr) (C : Str) (kio : Option Nat) (F : List D → FR) (neg : Bool) : R2 := fun x y H Q => ∃ a b dx dy fs gs, x = .ref a ∧ y = .ref b ∧ H a = some (.ins (cA C) dx fs) ∧ H b = some (.ins (cA C) dy gs) ∧ spF K cA 2 kio F [x, y] H (fun v H' => ∃ t, v = .bl t ∧ Q (.bl (if neg = true then !t else t)) H') E0
theorem op_own (Fo : OkC X.prog X.w X.K X.mg X.base f ps k (spF X.K cA 2 kio F)) (hr : Room k X.A) (hm : Meth X.K (cA C) "__eq__" f) : OpR X (compareOp .Eq) (rOwn X.K cA C kio F false) := by
  intro pins s σ H x y v u Q I rx ry h
  obtain ⟨fd, Fo, hb⟩ := Fo.ex
  obtain ⟨a, b, dx, dy, fs, gs, rfl, rfl, ha, hb', hsp⟩ := h
  cases rx
  cases ry
  obtain ⟨mA, J, _⟩ := ins_get I.hok ha
  obtain ⟨mB, J', _⟩ := ins_get I.hok hb'
  obtain ⟨od, J, _⟩ := J.look
  obtain ⟨od', J', _⟩ := J'.look
  obtain ⟨m, hF⟩ := I.fr
  show wpAny (model X.prog X.w) X.A (richCompare .Eq (.ref a) (.ref b)) (EP X pins σ Q) X.xe s
  refine PySem.W.cmp_K (op := .Eq) (tb := .ref (cA C)) hr.units0 hF I.ok.mod.kin J J'.type (by simp [PySem.W.notFirst]) hm.at_ hm.fn ?_
  refine wpAny_mono (run_own (Q := fun v H' => Q v H') Fo hr rfl hb I ?_) (fun v s' hv => ?_) fun _ _ x => x
  · obtain ⟨h1, ds, Z, L, r, w, p⟩ := hsp
    refine ⟨h1, ds, Z, L, r, w, ?_⟩
    cases hF2 : F ds with
    | rt d io => rw [hF2] at p; exact fun v H' Z' fp g a1 a2 a3 a4 => let ⟨t, e, q⟩ := p v H' Z' fp g a1 a2 a3 a4; ⟨t, e, by rw [e]; exact q⟩
    | ex e io => rw [hF2] at p; exact p
    | st => rw [hF2] at p; exact p
  · obtain ⟨t, H', rfl, I', q⟩ := hv
    exact ⟨.bl t, H', I', rfl, q⟩
end
end DL
namespace HN2
open PySem PySem.Spec PyProof.Rows PySem.SeqAt
section
variable {prog : Program} {w : World} {A : Around} {E : Value → Shared → Prop} {s : Shared} {K : PySem.W.Frag} {x y C f : Addr} {ox : Obj} {od : Option Obj}
theorem entry_ne (X : K.In s.heap) (I : PySem.W.InstAt s.heap x ox C od) (hs : PySem.W.findIn K (.ref C) "__eq__" = some (some (.ref f))) (hf : PySem.W.isFn K (.ref f) = true) (hu : A.units < cLine) {Q : Fin → Shared → Prop}
    (hcall : wpAny (model prog w) A (call (.ref f) [.ref x, .ref y]) (fun v s' => ∃ b, v = .bool b ∧ Q (.done (.ret (.bool (!b)))) s') E s) : wpAny (model prog w) A (Builtin.«object.__ne__» ⟨[.ref x, .ref y], []⟩) Q E s := by
  obtain ⟨h, g, d, t, os⟩ := s
  unfold Builtin.«object.__ne__»
  repeat (first
    | with_reducible refine wpAny_cRoomFor hu ?_
    | (refine wpAny_bind (m := callSpecialIfBound? (.ref x) (Str.ofString "__eq__") [.ref y])
        (PySem.W.ifBound_K X I hs hf (wpAny_mono hcall (fun v s' hv => by
          obtain ⟨b, rfl, hq⟩ := hv
          repeat (first | exact hq | exact wpAny_pure hq | exact wpAny_truthy_bool hq | (refine wpAny_bind (m := truthy (.bool _)) (wpAny_truthy_bool ?_)) | wp_step)) fun _ _ e => e)))
    | wp_step)
theorem call_ne (X : K.In s.heap) (I : PySem.W.InstAt s.heap x ox C od) (hm : PySem.W.mroIn K C (.type "object") = some true) (hs : PySem.W.findIn K (.ref C) "__eq__" = some (some (.ref f))) (hf : PySem.W.isFn K (.ref f) = true) (hu : A.in1.units < cLine) {Q : Value → Shared → Prop}
    (hcall : wpAny (model prog w) A.in1 (call (.ref f) [.ref x, .ref y]) (fun v s' => ∃ b, v = .bool b ∧ Q (.bool (!b)) s') E s) : wpAny (model prog w) A (call (.builtin "object.__ne__") [.ref x, .ref y]) Q E s :=
  wpAny_call (codeAny_call_builtin F.cmp_object.ne.plain F.cmpEntry_ne (PySem.W.check_slot F.cmpKind_ne F.cmpSplit_ne (I.type.andThen (PySem.W.looks_mroIn X hm)) (F.cmpArgs_ne _ _) (entry_ne X I hs hf hu hcall)))
theorem ifBound_objNe {M : Model} {args : List Value} {Q : Option Value → Shared → Prop} (X : K.In s.heap) (I : PySem.W.InstAt s.heap x ox C od) (hs : PySem.W.findIn K (.ref C) "__ne__" = some (some (.builtin "object.__ne__")))
    (h : wpAny M A (call (.builtin "object.__ne__") (.ref x :: args)) (fun v => Q (some v)) E s) : wpAny M A (callSpecialIfBound? (.ref x) "__ne__" args) Q E s := by
  simp only [callSpecialIfBound?, bindSpecialIfBound?]
  refine wpAny_holding (wpAny_bind (wpAny_bind (wpAny_bind (I.type.here ((PySem.W.looks_findIn X hs).here ?_)))))
  refine wpAny_bind (wpAny_askSetting (wpAny_ite ?_))
  have fin : wpAny M A (call (.builtin "object.__ne__") ([.ref x] ++ args) >>= fun v => pure (some v)) Q E s := wpAny_bind (wpAny_mono h (fun v s' h' => wpAny_pure h') fun _ _ h' => h')
  split
  · exact wpAny_bind (wpAny_of_eq (F.cmp_object.ne.bind _) (wpAny_pure (by exact fin)))
  · exact wpAny_tryCatch (wpAny_bind (wpAny_of_eq (F.cmp_object.ne.bind _) (wpAny_pure (by exact fin))))
theorem rc_ne {oy : Obj} {od' : Option Obj} (hu : A.units + 1 < cLine) (X : K.In s.heap) (I : PySem.W.InstAt s.heap x ox C od) (J : PySem.W.InstAt s.heap y oy C od') (hm : PySem.W.mroIn K C (.type "object") = some true)
    (hn : PySem.W.findIn K (.ref C) "__ne__" = some (some (.builtin "object.__ne__"))) (hs : PySem.W.findIn K (.ref C) "__eq__" = some (some (.ref f))) (hf : PySem.W.isFn K (.ref f) = true) {Q : Value → Shared → Prop}
    (hcall : wpAny (model prog w) A.in1 (call (.ref f) [.ref x, .ref y]) (fun v s' => ∃ b, v = .bool b ∧ Q (.bool (!b)) s') E s) : wpAny (model prog w) A (richCompare .NotEq (.ref x) (.ref y)) Q E s := by
  have one : wpAny (model prog w) A (tryCompare (.ref x) "__ne__" (.ref y)) (fun r s' => ∃ v, r = some v ∧ Q v s') E s := by
    unfold tryCompare
    refine wpAny_bind (ifBound_objNe X I hn (call_ne X I hm hs hf hu (wpAny_mono hcall (fun v s' hv => ?_) fun _ _ e => e)))
    obtain ⟨b, rfl, hq⟩ := hv
    exact ⟨b, rfl, wpAny_pure ⟨_, rfl, hq⟩⟩
  unfold richCompare
  simp only [oneThing_ref]
  refine wpAny_holding (wpAny_bind (wpAny_cRoomFor (Nat.lt_of_succ_lt hu) ?_))
  refine wpAny_bind (I.type.here (wpAny_bind (J.type.here ?_)))
  rw [cmpInfo_NotEq]
  dsimp only
  rw [show (Value.ref C != Value.ref C) = false from by simp]
  simp only [Bool.false_eq_true, if_false]
  refine wpAny_bind (wpAny_pure ?_)
  simp only [Bool.false_eq_true, if_false]
  refine wpAny_bind (wpAny_mono one (fun r s' z => ?_) fun _ _ e => e)
  obtain ⟨v, rfl, hq⟩ := z
  exact wpAny_pure hq
end
end HN2
namespace DL
open PySem L2 PyProof.Rows
section
variable {X : Cx} {cA : Str → Addr} {C : Str} {f : Addr} {ps : List Str} {k : Nat} {kio : Option Nat} {F : List D → FR}
/-- the class has no != of its own -/
structure NoNe (K : PySem.W.Frag) (C : Addr) : Prop where
  ne : PySem.W.findIn K (.ref C) "__ne__" = some (some (.builtin "object.__ne__"))
  ob : PySem.W.mroIn K C (.type "object") = some true
theorem op_ownNe (Fo : OkC X.prog X.w X.K X.mg X.base f ps k (spF X.K cA 2 kio F)) (hr : Room (k + 1) X.A) (hm : Meth X.K (cA C) "__eq__" f) (hn : NoNe X.K (cA C)) : OpR X (compareOp .NotEq) (rOwn X.K cA C kio F true) := by
  intro pins s σ H x y v u Q I rx ry h
  obtain ⟨fd, Fo, hb⟩ := Fo.ex
  obtain ⟨a, b, dx, dy, fs, gs, rfl, rfl, ha, hb', hsp⟩ := h
  cases rx
  cases ry
  obtain ⟨mA, J, _⟩ := ins_get I.hok ha
  obtain ⟨mB, J', _⟩ := ins_get I.hok hb'
  obtain ⟨od, J, _⟩ := J.look
  obtain ⟨od', J', _⟩ := J'.look
  show wpAny (model X.prog X.w) X.A (richCompare .NotEq (.ref a) (.ref b)) (EP X pins σ Q) X.xe s
  refine HN2.rc_ne (by have := hr.units; omega) I.kIn J J' hn.ob hn.ne hm.at_ hm.fn ?_
  refine wpAny_mono (run_own (Q := fun v H' => ∃ t, v = .bl t ∧ Q (.bl (!t)) H') Fo hr.in1 rfl hb I ?_) (fun v s' hv => ?_) fun _ _ x => x
  · obtain ⟨h1, ds, Z, L, r, w, p⟩ := hsp
    refine ⟨h1, ds, Z, L, r, w, ?_⟩
    cases hF2 : F ds with
    | rt d io => rw [hF2] at p; exact fun v H' Z' fp g a1 a2 a3 a4 => let ⟨t, e, q⟩ := p v H' Z' fp g a1 a2 a3 a4; ⟨t, e, t, e, q⟩
    | ex e io => rw [hF2] at p; exact p
    | st => rw [hF2] at p; exact p
  · obtain ⟨t, H', rfl, I', t', e, q⟩ := hv
    cases e
    exact ⟨t, rfl, .bl (!t), H', I', rfl, q⟩
/-- two frozen instances, by their own == -/
def gOwn (C : Str) (F : List D → FR) (neg : Bool) (d1 d2 : D) : Option D := match d1, d2 with
  | .n (.ins C1 fs1) false xs1, .n (.ins C2 fs2) false xs2 => if C1 = C ∧ C2 = C ∧ isFL xs1 = true ∧ isFL xs2 = true then (match F [.n (.ins C1 fs1) false xs1, .n (.ins C2 fs2) false xs2] with
    | .rt (.a (.bl t)) _ => some (.bl (if neg = true then !t else t))
    | _ => none) else none
  | _, _ => none
theorem vop_own {K : PySem.W.Frag} {neg : Bool} : VOp2 K cA (rOwn K cA C kio F neg) (gOwn C F neg) := by
  refine ⟨@fun d1 d2 d v1 v2 H Z f1 f2 Q h1 h2 w hg q => ?_⟩
  unfold gOwn at hg
  split at hg
  · rename_i C1 fs1 xs1 C2 fs2 xs2
    split at hg
    · rename_i hc
      obtain ⟨c1, c2, e1, e2⟩ := hc
      subst c1
      subst c2
      split at hg
      · rename_i t io hF
        cases hg
        have z1 := repD_isF _ h1 (by simp [isF, e1])
        have z2 := repD_isF _ h2 (by simp [isF, e2])
        subst z1 z2
        obtain ⟨p1, vs1, g1, dx1, rfl, a1, _⟩ := rep_ins h1
        obtain ⟨p2, vs2, g2, dx2, rfl, a2, _⟩ := rep_ins h2
        have hr : RepL K cA H Z [.n (.ins C2 fs1) false xs1, .n (.ins C2 fs2) false xs2] [.ref p1, .ref p2] [] := ⟨.ref p1, [.ref p2], [], [], rfl, h1, ⟨.ref p2, [], [], [], rfl, h2, ⟨rfl, rfl⟩, rfl⟩, rfl⟩
        refine ⟨p1, p2, dx1, dx2, _, _, rfl, rfl, a1, a2, rfl, _, Z, [], hr, w, ?_⟩
        rw [hF]
        intro v H' Z' fp g hi hd w' F'
        obtain ⟨e3, e4⟩ := hd
        subst e3 e4
        refine ⟨t, rfl, q _ H' Z' [] ⟨rfl, rfl⟩ (wf0 w') (F'.less fun a m => nomatch m)⟩
      · cases hg
    · cases hg
  · cases hg
theorem cr_own (Fo : OkC X.prog X.w X.K X.mg X.base f ps k (spF X.K cA 2 kio F)) (hr : Room k X.A) (hm : Meth X.K (cA C) "__eq__" f) : CR2 X cA .Eq (gOwn C F false) := ⟨_, op_own (C := C) Fo hr hm, vop_own, by decide, by decide⟩
theorem cr_ownNe (Fo : OkC X.prog X.w X.K X.mg X.base f ps k (spF X.K cA 2 kio F)) (hr : Room (k + 1) X.A) (hm : Meth X.K (cA C) "__eq__" f) (hn : NoNe X.K (cA C)) : CR2 X cA .NotEq (gOwn C F true) := ⟨_, op_ownNe (C := C) Fo hr hm hn, vop_own, by decide, by decide⟩
end
end DL
namespace DL
open PySem L2 PyProof.Rows
/-! ### facts on classes beyond He.Fa -/
structure ClsX (K : PySem.W.Frag) (C : Addr) : Prop where
  ne : PySem.W.findIn K (.ref C) "__ne__" = some (some (.builtin "object.__ne__"))
  ob : PySem.W.mroIn K C (.type "object") = some true
  kc : PySem.W.findIn K (.ref C) "__class__" = some (some (.builtin "object.__class__"))
  kg : PySem.W.specialIn K (.builtin "object.__class__") "__get__" = some (some (.builtin "getset_descriptor.__get__"))
  kt : PySem.W.takesIn K (.builtin "object.__class__") = some true
def clsXB (K : PySem.W.Frag) (C : Addr) : Bool := decide (PySem.W.findIn K (.ref C) "__ne__" = some (some (.builtin "object.__ne__"))) && (decide (PySem.W.mroIn K C (.type "object") = some true) &&
  (decide (PySem.W.findIn K (.ref C) "__class__" = some (some (.builtin "object.__class__"))) && (decide (PySem.W.specialIn K (.builtin "object.__class__") "__get__" = some (some (.builtin "getset_descriptor.__get__"))) && decide (PySem.W.takesIn K (.builtin "object.__class__") = some true))))
theorem clsXB_ok {K : PySem.W.Frag} {C : Addr} (h : clsXB K C = true) : ClsX K C := by
  unfold clsXB at h
  simp only [Bool.and_eq_true, decide_eq_true_eq] at h
  exact ⟨h.1, h.2.1, h.2.2.1, h.2.2.2.1, h.2.2.2.2⟩
theorem ClsX.noNe {K : PySem.W.Frag} {C : Addr} (h : ClsX K C) : NoNe K C := ⟨h.ne, h.ob⟩
def obsX (fa : List He.Fa) (fn : List He.DefD) (xs : List Str) (K : PySem.W.Frag) : He.AlD × Bool := (He.obsD fa fn K, xs.all fun x => clsXB K (He.ga K x))
def obsXG (n : Nat) (fa : List He.Fa) (fn : List He.DefD) (xs : List Str) (g : Addr → Option Obj) : He.AlD × Bool := obsX fa fn xs (He.frG g (He.asD g n))
def SaysX (fa : List He.Fa) (fn : List He.DefD) (xs : List Str) (K : PySem.W.Frag) : Prop := obsX fa fn xs K = (He.valD fn, true)
def hookX (n : Nat) (fa : List He.Fa) (fn : List He.DefD) (xs : List Str) : PySem.W.Hook where
  α := He.AlD × Bool
  obs := fun s => obsXG n fa fn xs s.heap.get?
  val := fun _ => (He.valD fn, true)
  says := fun _ h => ∃ K : PySem.W.Frag, K.In h ∧ SaysX fa fn xs K
  of := fun _ _ e => ⟨_, He.frG_in, e⟩
  keeps := fun _ _ _ ⟨K, hK, c⟩ k => ⟨K, PySem.W.Frag.In.keeps hK k, c⟩
theorem obsXG_eq {n : Nat} {fa : List He.Fa} {fn : List He.DefD} {xs : List Str} {g : Addr → Option Obj} {s : Shared} (h : ∀ a, g a = s.heap.get? a) : obsXG n fa fn xs g = (hookX n fa fn xs).obs s := by
  have e : g = s.heap.get? := funext h
  rw [e] <;> rfl
theorem SaysX.d {fa : List He.Fa} {fn : List He.DefD} {xs : List Str} {K : PySem.W.Frag} (h : SaysX fa fn xs K) : He.SaysD fa fn K := congrArg (fun z : He.AlD × Bool => z.1) h
theorem SaysX.x {fa : List He.Fa} {fn : List He.DefD} {xs : List Str} {K : PySem.W.Frag} (h : SaysX fa fn xs K) (i : Nat) {x : Str} (e : xs[i]? = some x) : ClsX K (He.ga K x) := by
  have c : (xs.all fun x => clsXB K (He.ga K x)) = true := congrArg (fun z : He.AlD × Bool => z.2) h
  exact clsXB_ok (List.all_eq_true.mp c x (List.mem_of_getElem? e))
/-! ### isinstance(x, C), x an instance of C -/
def gIsiC (C : Str) : D → Option D
  | .n (.ins C' _) _ _ => if C' = C then some (.bl true) else none
  | _ => none
theorem vu_isiC {K : PySem.W.Frag} {cA : Str → Addr} {C : Str} (h : ClsX K (cA C)) : VU K cA (fun v H Q => rIsi K [v, .ref (cA C)] H Q) (gIsiC C) := by
  refine ⟨@fun d1 d v1 H Z f1 Q h1 w hg q => ?_⟩
  unfold gIsiC at hg
  split at hg
  · rename_i C' fs o xs
    split at hg
    · rename_i e
      cases hg
      subst e
      obtain ⟨p, vs, g, dx, rfl, a1, _, cl, _⟩ := rep_ins h1
      exact ⟨_, _, .ref (cA C'), .ref (cA C'), true, rfl, .own _, .base (.ins a1 cl h.kc h.kg h.kt h.ob), (by unfold PySem.W.kitOne; simp), q _ H Z [] ⟨rfl, rfl⟩ w Fr.refl⟩
    · cases hg
  · cases hg
section
variable {X : Cx} {cA : Str → Addr} {W : WX} {fa fb : Env → Out D} {a b : Expr} {pos : Pos}
theorem de_isiC {x C : Str} {p q : Pos} (h : ClsX X.K (cA C)) (hg : Gl X "isinstance") (hm : X.mg "isinstance" = none) (hg2 : Gl X x) (hm2 : X.mg x = some (.ref (cA C))) (ha : DP X cA W fa a) (hd2 : (x == ("__debug__" : Str)) = false := by kernel_rfl)
    (hs1 : starEach [a, .Name x q] X.env = (false, eval a X.env) :: starEach [.Name x q] X.env := by kernel_rfl) (hs2 : starEach [.Name x q] X.env = (false, eval (.Name x q) X.env) :: starEach [] X.env := by kernel_rfl) (hpl : (backTo pos (starEach [.Name x q] X.env)).any (·.1) = false := by kernel_rfl) :
    DE X cA W (dU (gIsiC C) fa) (.Call (.Name "isinstance" p) [a, .Name x q] [] pos) :=
  PE.imp (pe_callB call_isi hg hm PyProof.Rows.boot_isinstance (pa_cons ha (pa_cons (pe_glob (v := .ref (cA C)) hg2 hm2 rfl hd2) pa_nil hs2) hs1) (by decide) (by decide) hs1 hpl) (te_un (vu_isiC h))
end
end DL
namespace DL
open PySem L2 PyProof.Rows NdefX

/-! ### an own exception whose __init__ says super().__init__(e), then self.f = x -/
/-- what the head must say of the class at C with its __init__ at fI -/
structure SupC (P : Program) (K : PySem.W.Frag) (C fI : Addr) (f : Str) : Prop where
  ox : OexC K C
  keep : PySem.W.keepIn K (.ref C) = true
  iC : PySem.W.findIn K (.ref C) "__init__" = some (some (.ref fI))
  tI : PySem.W.typeIn K (.ref fI) = some (.type "function")
  noF : PySem.W.findIn K (.ref C) f = some none
  cl : ∃ cd, PySem.W.clsIn K C = some cd ∧ PySem.W.mroIn K C (.ref C) = some true
  su : PySem.W.ks_superIn K C C "__init__" = some (some (.builtin "ValueError.__init__"))
  ve : PySem.W.subIn K (.ref C) (.type "ValueError") = some true
  op : PySem.W.nsIn K cStatics "thirdparty.any" = some none
  top : (P.main.scope.names.lookup ("super" : Str)).isSome = false
/-- the __init__ itself -/
structure SupF (P : Program) (K : PySem.W.Frag) (C fI : Addr) (fd : FuncData) (F : NF) : Prop where
  ex : ∃ (oc : Value) (od : Option Addr) (doc pm ctv : Value) (osl : Array (Option Value)), fd = F.fd doc pm ctv ∧ K.lookup fI = some ⟨oc, od, .func fd, osl⟩
  cd : PySem.W.codeIn K (.ref F.c) F.qual = true
  file : ∃ ccl cdd vs ccs file tf, K.lookup F.c = some ⟨ccl, cdd, .fields vs, ccs⟩ ∧ vs[2]? = some (.str file tf) ∧ ((P.main.file : Str) == file) = true
  cell : ∃ cc cl cld csl, F.cl = [(("__class__" : Str), cc)] ∧ K.lookup cc = some ⟨cl, cld, .cell (some (.ref C)), csl⟩
section
variable {P : Program} {w : World} {K : PySem.W.Frag} {mg : Str → Option Value} {base : Heap} {C fI : Addr} {f p : Str} {fd : FuncData} {F : NF}
abbrev scx (P : Program) (w : World) (K : PySem.W.Frag) (mg : Str → Option Value) (base : Heap) (p : Str) (F : NF) (fI : Addr) (A : Around) (outer : List PySem.Env) (s : Shared) (H : Hp) (E : XK) : Cx := ncx (L2.CX P w) P w K mg base ["self", p, "__class__"] F fI A outer s H E
/-- the promise of such an __init__ -/
def spSup (K : PySem.W.Frag) (C : Addr) (f : Str) (ok : V → Bool) : Sp := fun vs H Q E => vs.length = 2 ∧ ∃ a x, vs = [.ref a, x] ∧ ok x = true ∧ H a = some (exo a C none) ∧ ∀ dx, H dx = none → dx ≠ a → Q .non (upd (upd H dx (exd dx [(f, x)])) a (exo a C (some dx)))

/-- ValueError.__init__ bound to an exception, called -/
theorem call_mw {X : Cx} {pins : List (Addr × Obj)} {σ : L2.St} {H : Hp} {s : Shared} {a u C : Addr} {us : List Value} {A : Around} {E : Value → Shared → Prop} {Q : Value → Shared → Prop} (T : OexC X.K C) (I : Inv X pins σ H s) (e : H a = some (exo a C none)) (hu : s.heap.get? u = some (PySem.W.kxs_mw "ValueError.__init__" a))
    (hl : us.length ≤ sizeLine) (h : ∀ s', Inv X pins σ H s' → Q .none s') : wpAny (model X.prog X.w) A (call (.ref u) us) Q E s := by
  obtain ⟨nm, q, N, bs, bm, sn, sub, ab, col, dd, k0, k1, k2, k3, k5, hC, hbm⟩ := T.cls
  obtain ⟨t1, ho⟩ := exo_at I.hok e
  have hC' := I.kIn _ _ hC
  obtain ⟨hp, g, d, t, os⟩ := s
  have FB := PySem.F.excBase_ValueError
  refine wpAny_call (codeAny_of_tree ?_)
  show wpAny _ A.in1 (callAny (.ref u) ⟨us, []⟩) _ _ _
  simp only [callAny]
  refine wpAny_bind (wpAny_load hu ?_)
  simp only [PySem.W.kxs_mw, show (Value.type "method-wrapper" == Value.type "method" || Value.type "method-wrapper" == Value.type "builtin_function_or_method" || Value.type "method-wrapper" == Value.type "method-wrapper") = true by decide, if_true]
  refine PySem.W.KFB.if_so (by decide) ?_
  refine wpAny_bind (PySem.W.check_bound_init FB.toExcCallFacts hC' ho rfl ?_)
  refine wpAny_bind (wpAny_pure (wpAny_pure ?_))
  refine ⟨plainId_quiet FB.init.plain _, codeAny_builtin FB.initEntry ?_⟩
  refine PySem.W.exc_init_tree (cls := .ref C) (t0 := t1) (dv := none) (c2 := .none) (c3 := .none) (b4 := .bool false) ho hl fun h' k hx _ => ?_
  have J := I.write (t' := t) (x := a) (e := a) (o := exo a C none) (by rw [e]; exact True.intro) (.inl rfl) k ⟨_, hx⟩ (exo_ok hx)
  have eu : upd H a (exo a C none) = H := by
    funext b
    by_cases hb : b = a
    · rw [hb, upd_same, e]
    · rw [upd_ne hb]
  rw [eu] at J
  exact h _ J

/-- the first statement: super().__init__(e) -/
theorem sup_stmt {A : Around} {outer : List PySem.Env} {s0 : Shared} {H0 : Hp} {E0 : XK} (T : SupC P K C fI f) (TF : SupF P K C fI fd F) (hself : (F.params.posonlyargs ++ F.params.args).head?.map (·.arg) = some "self") (hsl : F.scope.names.lookup ("self" : Str) = some .local)
    (hsu : F.scope.names.lookup ("super" : Str) = some .globalImplicit) (hcl : F.scope.names.lookup ("__class__" : Str) = some .free) (hmg : mg "super" = none)
    {e : Expr} {te : TE} {p0 p1 p2 p3 p4 : Pos} (he : PE (scx P w K mg base p F fI A outer s0 H0 E0) e te) {s : Shared} {σ : L2.St} {H : Hp} {a : Addr} {Q : Flow → Shared → Prop}
    (I : Inv (scx P w K mg base p F fI A outer s0 H0 E0) [] σ H s) (hσ : σ[0]? = some (some (.ref a))) (ha : H a = some (exo a C none)) (hte : te σ H fun v H1 => H1 = H ∧ [v].length = 1)
    (hk : F.scope.kind = .function) (hst : starEach [e] (envF F fI s0.heap.objs.size) = (false, eval e (envF F fI s0.heap.objs.size)) :: starEach [] (envF F fI s0.heap.objs.size))
    (hsw : swapsWith (.Call (.Attribute (.Call (.Name "super" p0) [] [] p1) "__init__" p2) [e] [] p3) none p4.line (envF F fI s0.heap.objs.size) = pure false)
    (hev : ∃ pl : Sem Bool, eval (.Call (.Attribute (.Call (.Name "super" p0) [] [] p1) "__init__" p2) [e] [] p3) (envF F fI s0.heap.objs.size) = (do
      let ov ← attributeBase (.Call (.Name "super" p0) [] [] p1) "__init__" (envF F fI s0.heap.objs.size) (eval (.Call (.Name "super" p0) [] [] p1) (envF F fI s0.heap.objs.size))
      standAt p2.atName
      let (f, first) ← holding [ov] (getMethod ov "__init__" pl)
      callWith p3 f first (backTo p3 (starEach [e] (envF F fI s0.heap.objs.size))) []))
    (h : ∀ s', Inv (scx P w K mg base p F fI A outer s0 H0 E0) [] σ H s' → Q .next s') :
    _root_.PySem.wpAt (model P w) (A.deeper (envF F fI s0.heap.objs.size)) (.func F.body (envF F fI s0.heap.objs.size)) (exec (.Expr (.Call (.Attribute (.Call (.Name "super" p0) [] [] p1) "__init__" p2) [e] [] p3) p4) (envF F fI s0.heap.objs.size)) Q
      (scx P w K mg base p F fI A outer s0 H0 E0).xe s := by
  obtain ⟨oc, od, doc, pm, ctv, osl, rfl, lk⟩ := TF.ex
  obtain ⟨ccl, cdd, vs, ccs, file, tf, lc, hvs, hfile⟩ := TF.file
  obtain ⟨cc, ccl2, cld, csl, ecl, lcell⟩ := TF.cell
  obtain ⟨cd, hcd, hmro⟩ := T.cl
  obtain ⟨pl, hev⟩ := hev
  have KX : K.In s.heap := I.kIn
  have hat : (("__init__" : Str) == ("__class__" : Str)) = false := by decide +kernel
  obtain ⟨ar, hp, har⟩ : ∃ ar, (F.params.posonlyargs ++ F.params.args).head? = some ar ∧ ar.arg = "self" := by
    cases q : (F.params.posonlyargs ++ F.params.args).head? with
    | none => rw [q] at hself; cases hself
    | some ar => rw [q] at hself; exact ⟨ar, rfl, Option.some.inj hself⟩
  obtain ⟨m, hn, hl⟩ := I.loc
  obtain ⟨u, ru, lu⟩ := hl 0 "self" (.ref a) rfl hσ (.inl hsl)
  obtain rfl : u = Value.ref a := ru
  have hm : m "self" = some (.ref a) := by
    rcases lu with ⟨_, e⟩ | ⟨q, _⟩
    · exact e
    · have q : F.scope.names.lookup ("self" : Str) = some .cell ∨ F.scope.names.lookup ("self" : Str) = some .free := q
      rw [hsl] at q
      rcases q with q | q <;> cases q
  obtain ⟨t1, hoa⟩ := exo_at I.hok ha
  have IA : PySem.W.InstAt s.heap a { cls := .ref C, dict := none, data := .fields #[.ref t1, .none, .none, .none, .bool false, .none] } C none := ⟨hoa, rfl, rfl, trivial⟩
  obtain ⟨oD, hD1, hD2⟩ : ∃ oD, s.heap.get? C = some oD ∧ oD.data = .cls cd := by
    unfold PySem.W.clsIn at hcd
    split at hcd
    · rename_i c d cd' sl ho
      cases hcd
      exact ⟨_, KX _ _ ho, rfl⟩
    · cases hcd
  refine ks_wpAt_Expr_any (env := envF F fI s0.heap.objs.size) (ks_wpAt_MethodCall (pl := pl) ?_ hev) (by unfold interactive; rw [hk]; rfl) hsw
  refine ks_wpAt_super_base (env := envF F fI s0.heap.objs.size) (f := fI) (cc := F.c) hsu hcl hat rfl (KX _ _ lk) rfl hp rfl (KX _ _ lc) rfl hvs hfile T.top ?_
  rw [har]
  obtain ⟨mb, b1, b2⟩ := I.mod.blt
  refine PySem.W.ks_loadName_global hk hsu (Calls.loadGlobal_builtin (env := envF F fI s0.heap.objs.size) (I.mod.glob.keeps I.bk) hmg (b1.keeps I.bk) ((b2 _ (by decide)).trans (by decide +kernel)) ⟨rfl, ?_⟩)
  refine wpAny_loadName_free hk hcl (by show List.lookup _ F.cl = some cc; rw [ecl]; rfl) ⟨_, KX _ _ lcell, rfl⟩ ?_
  refine wpAny_loadName_local hk hsl hn hm ?_
  obtain ⟨hh, g, d, t, os⟩ := s
  refine ks_wpAny_isType_cls hD1 hD2 ⟨rfl, ?_⟩
  refine ks_wpAny_call_super hD1 hD2 hoa rfl (fun c e => by cases e) (PySem.W.looks_mroIn KX hmro) (fun h' e1 k1 => ?_)
  have I1 : Inv (scx P w K mg base p F fI A outer s0 H0 E0) [] σ H ⟨h', g, d, t, os⟩ := I.kept (t' := t) (h' := h') k1
  have KX1 : K.In h' := I1.kIn
  obtain ⟨t2, hoa1⟩ := exo_at I1.hok ha
  have IA1 : PySem.W.InstAt h' a { cls := .ref C, dict := none, data := .fields #[.ref t2, .none, .none, .none, .bool false, .none] } C none := ⟨hoa1, rfl, rfl, trivial⟩
  have hI : PySem.W.Looks (model P w) h' (isInstance (.ref a) (.type "ValueError")) true := IA1.type.andThen (PySem.W.looks_subIn KX1 T.ve)
  have hsu2 : PySem.W.alongIn K "__init__" ((cd.mro.dropWhile (· != .ref C)).drop 1) = some (some (.builtin "ValueError.__init__")) := by
    have z := T.su
    unfold PySem.W.ks_superIn at z
    rw [hcd] at z
    exact z
  refine PySem.W.kxs_getMethod PySem.W.kxs_ValueError e1 (PySem.W.looks_opaque KX1 T.op) (l₀ := cd.mro) ?_ rfl KX1 hsu2 hI (PySem.W.ks_ne KX1 IA1 hcd) (by decide +kernel) ?_
  · exact fun A Q E s k q => wpAny_bind ((PySem.W.looks_clsIn KX1 hcd) A _ E s k (wpAny_pure q))
  have k2 : ∀ b o, h'.get? b = some o → (h'.push (PySem.W.kxs_mw "ValueError.__init__" a)).get? b = some o := fun b o e => Heap.get?_push_of_some _ e
  have hmw : (h'.push (PySem.W.kxs_mw "ValueError.__init__" a)).get? h'.objs.size = some (PySem.W.kxs_mw "ValueError.__init__" a) := Heap.get?_push_at rfl rfl
  have I2 : Inv (scx P w K mg base p F fI A outer s0 H0 E0) [] σ H ⟨h'.push (PySem.W.kxs_mw "ValueError.__init__" a), g, d, t + 1, os⟩ := I1.kept (t' := t + 1) k2
  have I3 : Inv (scx P w K mg base p F fI A outer s0 H0 E0) [(h'.objs.size, PySem.W.kxs_mw "ValueError.__init__" a)] σ H ⟨h'.push (PySem.W.kxs_mw "ValueError.__init__" a), g, d, t + 1, os⟩ := I2.pins_of fun q hq => by
    obtain rfl : q = (h'.objs.size, PySem.W.kxs_mw "ValueError.__init__" a) := by simpa using hq
    exact ⟨hmw, I1.hok.fresh (Nat.le_refl _), fun z => absurd I1.lt (by rw [← z]; exact Nat.lt_irrefl _), I1.nofs (Nat.le_refl _), fun v z => by cases z⟩
  refine PySem.W.kxs_callWith (i := "ValueError.__init__") (x := a) (by rw [hst]; rfl) ?_
  rw [hst]
  refine Calls.evalArgs_plain ?_
  have hpa : PA (scx P w K mg base p F fI A outer s0 H0 E0) [e] (tCons te tNil) := pa_cons he pa_nil hst
  have hr := hpa.run p3 [(h'.objs.size, PySem.W.kxs_mw "ValueError.__init__" a)] _ σ H (fun vs H1 => H1 = H ∧ vs.length = 1) I3
  rw [show starEach [e] (scx P w K mg base p F fI A outer s0 H0 E0).env = (false, eval e (envF F fI s0.heap.objs.size)) :: starEach [] (envF F fI s0.heap.objs.size) from hst] at hr
  refine wpAny_mono (hr ?_) (fun us s3 ⟨vs', H3, I4, rv, eH, el⟩ => ?_) (fun _ _ z => z)
  · show te σ H fun x H1 => H1 = H ∧ [x].length = 1
    exact hte
  · subst eH
    have pn := I4.pin (h'.objs.size, PySem.W.kxs_mw "ValueError.__init__" a) (List.mem_append_right _ List.mem_cons_self)
    refine ⟨pn.1, ?_⟩
    refine call_mw T.ox I4 ha pn.1 (by show us.length ≤ _; rw [← rv.length, el, sizeLine_eq]; decide) fun s' J => ?_
    exact h s' (J.pins_of (pins' := []) fun q hq => by cases hq)

/-- the def: its words, one by one -/
structure SupW (F : NF) (p f : Str) (e : Expr) : Prop where
  sc : NScope ["self", p, "__class__"] ["self", p] ["__class__"] F.scope
  self_ : (F.params.posonlyargs ++ F.params.args).head?.map (·.arg) = some "self"
  su : F.scope.names.lookup ("super" : Str) = some .globalImplicit
  body : ∃ p0 p1 p2 p3 p4 q1 q2 q3 q4, F.body = [.Expr (.Call (.Attribute (.Call (.Name "super" p0) [] [] p1) "__init__" p2) [e] [] p3) p4, .Assign [.Attribute (.Name "self" q1) f q2] (.Name p q3) q4] ∧
    ∀ fI L : Addr, ∃ pl : Sem Bool, eval (.Call (.Attribute (.Call (.Name "super" p0) [] [] p1) "__init__" p2) [e] [] p3) (envF F fI L) = (do
      let ov ← attributeBase (.Call (.Name "super" p0) [] [] p1) "__init__" (envF F fI L) (eval (.Call (.Name "super" p0) [] [] p1) (envF F fI L))
      standAt p2.atName
      let (f, first) ← holding [ov] (getMethod ov "__init__" pl)
      callWith p3 f first (backTo p3 (starEach [e] (envF F fI L))) [])
  dbg : (p == ("__debug__" : Str)) = false ∧ (p == ("__classdict__" : Str)) = false
  st : ∀ fI L : Addr, starEach [e] (envF F fI L) = (false, eval e (envF F fI L)) :: starEach [] (envF F fI L)
  sw : ∀ (fI L : Addr) (p0 p1 p2 p3 p4 : Pos), swapsWith (.Call (.Attribute (.Call (.Name "super" p0) [] [] p1) "__init__" p2) [e] [] p3) none p4.line (envF F fI L) = pure false
  sw2 : ∀ (fI L : Addr) (q1 q2 q3 q4 : Pos), swapsWith (.Name p q3) (some (.Attribute (.Name "self" q1) f q2)) q4.line (envF F fI L) = pure false
theorem sup_ok {ok : V → Bool} {e : Expr} {te : TE} {k : Nat} (T : SupC P K C fI f) (TF : SupF P K C fI fd F) (Wd : SupW F p f e) (hmg : mg "super" = none)
    (he : ∀ (A : Around) (outer : List PySem.Env) (s0 : Shared) (H0 : Hp) (E0 : XK), PE (scx P w K mg base p F fI A outer s0 H0 E0) e te)
    (hte : ∀ (σ : L2.St) (H : Hp) (x : V), σ[1]? = some (some x) → ok x = true → te σ H fun v H1 => H1 = H ∧ [v].length = 1) :
    FnOk P w K mg base (L2.CX P w) (k + 1) fI fd ["self", p] (spSup K C f ok) := by
  refine ⟨fun vs H Q E h => h.1, fun A outer s H args us vs Q E hr e0 hb r hsp => ?_⟩
  obtain ⟨hl, a, x, rfl, hok, ha, hq⟩ := hsp
  obtain ⟨oc, od, doc, pm, ctv, osl, efd, lk⟩ := TF.ex
  have S := Wd.sc
  have KX : K.In s.heap := e0.mod.kin.keeps fun b o e => (e0.bs b o e).1
  have lim : s.heap.NoLimit := e0.mod.nolimit.keeps fun b o e => (e0.bs b o e).1
  obtain ⟨cc, ccl2, cld, csl, ecl, lcell⟩ := TF.cell
  have CA : CellsAt F.cl ["__class__"] [none] s.heap H := by
    refine ⟨rfl, fun y c e1 => ?_, fun x y c e1 e2 => ?_, fun i y e1 => ?_⟩
    · rw [ecl] at e1
      have ec : c = cc := by
        by_cases hy : (y == ("__class__" : Str)) = true
        · simp only [List.lookup, hy] at e1
          exact (Option.some.inj e1).symm
        · simp only [List.lookup, (Bool.not_eq_true _).mp hy] at e1
          cases e1
      subst ec
      have z := e0.bs _ _ (e0.mod.kin _ _ lcell)
      exact ⟨z.2, _, _, z.1, rfl⟩
    · rw [ecl] at e1 e2
      have one : ∀ {z : Str} {c : Addr}, List.lookup z [(("__class__" : Str), cc)] = some c → z = "__class__" := fun {z c} e => by
        by_cases hy : (z == ("__class__" : Str)) = true
        · exact beq_iff_eq.mp hy
        · simp only [List.lookup, (Bool.not_eq_true _).mp hy] at e
          cases e
      rw [one e1, one e2]
    · have ey : y = "__class__" := by
        cases i with
        | zero => simpa using e1.symm
        | succ i => simp at e1
      subst ey
      refine ⟨cc, by rw [ecl]; rfl, fun v e2 => ?_⟩
      cases i with
      | zero => simp at e2
      | succ i => simp at e1
  have efd' := efd
  subst efd
  refine ks_codeAny_call_defAt (body := F.body) hr.depth (KX _ _ lk) rfl lim (PySem.W.codeRec_of KX TF.cd) rfl hb S.nocell (fun ⟨n, _⟩ hy => S.par n (List.of_mem_zip hy).1) (fun h₁ hns hk₁ => ?_) S.co S.gen S.kind
  have I : Inv (scx P w K mg base p F fI A outer s H E) [] (startF ["self", p, "__class__"] [V.ref a, x] [none]) H { s with heap := h₁, toks := s.toks + ((["self", p] : List Str).zip us).length } := inv_startN S hr.hd e0 (by simp) r CA hns hk₁
  show _root_.PySem.wpAt (model P w) (A.deeper (envF F fI s.heap.objs.size)) (.func F.body (envF F fI s.heap.objs.size)) (execs F.body (envF F fI s.heap.objs.size)) _ _ _
  obtain ⟨p0, p1, p2, p3, p4, q1, q2, q3, q4, hbody, hev⟩ := Wd.body
  have hgo : ∀ (bd : List Stmt), bd = F.body → _root_.PySem.wpAt (model P w) (A.deeper (envF F fI s.heap.objs.size)) (.func F.body (envF F fI s.heap.objs.size)) (execs bd (envF F fI s.heap.objs.size)) (fun f s' => CR (L2.CX P w) outer P w H s Q E (.ok (.ret (match f with | .ret v => v | _ => .none))) s')
      (fun e s' => wpAny (model P w) (A.deeper (envF F fI s.heap.objs.size)) (leaving (envF F fI s.heap.objs.size) e) (fun _ s'' => CR (L2.CX P w) outer P w H s Q E (.error e) s'') (fun e' s'' => CR (L2.CX P w) outer P w H s Q E (.error e') s'') s')
      { s with heap := h₁, toks := s.toks + ((["self", p] : List Str).zip us).length } := by
    intro bd ebd
    rw [hbody] at ebd
    subst ebd
    refine ks_wpAt_execs_cons ?_
    refine sup_stmt T TF Wd.self_ (S.par "self" (by simp)) Wd.su (S.frk "__class__" (by simp)) hmg (he A outer s H E) I rfl ha (hte [some (.ref a), some x, none] H x rfl hok) S.kind (Wd.st _ _) (Wd.sw _ _ _ _ _ _ _) (hev _ _) (fun s' I' => ?_)
    show _root_.PySem.wpAt _ _ _ (execs [_] _) _ _ _
    refine wpAt_of_wpAny ?_
    have hs2 : PSs (scx P w K mg base p F fI A outer s H E) [.Assign [.Attribute (.Name "self" q1) f q2] (.Name p q3) q4] _ := pss_one (ps_ost (pe_var (i := 0) rfl (.inl (S.par "self" (by simp)))) (pe_var (i := 1) rfl (.inl (S.par p (by simp))) Wd.dbg.1 Wd.dbg.2) (Wd.sw2 _ _ _ _ _ _))
    refine wpAny_mono (hs2.run [] s' _ H { nx := fun _ H' => Q .non H', rt := Q } I' ?_) (fun fl s2 hs => ?_) (fun e s2 hs => hs)
    · exact ⟨x, rfl, .ref a, rfl, a, C, rfl, T.ox, T.noF, .inl ⟨ha, fun dx n ne => hq dx n ne⟩⟩
    · have fin : ∀ {σ' : L2.St} {H' : Hp} {v : V} {u : Value}, Inv (scx P w K mg base p F fI A outer s H E) [] σ' H' s2 → L2.RelV v u → Q v H' → CE outer P w H s Q u s2 :=
        fun {σ' H' v u} J rv q => ⟨v, H', J.os, J.bare, J.base, J.hok, rv, q⟩
      cases fl with
      | ret u =>
        obtain ⟨v, σ', H', J, rv, q⟩ := hs
        exact fin J rv q
      | next =>
        obtain ⟨σ', H', J, q⟩ := hs
        exact fin (v := V.non) (u := Value.none) J rfl q
      | brk =>
        obtain ⟨_, _, _, q⟩ := hs
        exact False.elim q
      | cont =>
        obtain ⟨_, _, _, q⟩ := hs
        exact False.elim q
  exact hgo F.body rfl
end
end DL
namespace DL
open PySem L2 PyProof.Rows

/-! ### raise -/
def dRaise (C : Str) : Env → Fl := fun ρ => .ex ⟨C, []⟩ ρ
def stRaise (C f : Str) (ok : At → Bool) (d : D) (ρ : Env) : Fl := match d with
  | .a x => if ok x = true then .ex ⟨C, [(f, x)]⟩ ρ else .st
  | _ => .st
/-- an own class without own __init__ -/
structure ExP (K : PySem.W.Frag) (C : Addr) : Prop where
  exc : PySem.W.excIn K C He.veBase "ValueError.__new__" = true
  keep : PySem.W.keepIn K (.ref C) = true
  sub : PySem.W.subIn K (.ref C) (.type "BaseException") = some true
  typ : PySem.W.typeIn K (.ref C) = some (.type "type")
/-- an own class with such an __init__ -/
structure ExS (P : Program) (w : World) (K : PySem.W.Frag) (mg : Str → Option Value) (base : Heap) (C : Addr) (f : Str) (ok : At → Bool) : Prop where
  ex : ∃ (fI : Addr) (fd : FuncData) (p : Str) (okV : V → Bool), SupC P K C fI f ∧ FnOk P w K mg base (L2.CX P w) 1 fI fd ["self", p] (spSup K C f okV) ∧ Binds K fd ["self", p] [] ∧ ∀ x : At, ok x = true → okV x.v = true
section
variable {X : Cx} {cA : Str → Addr} {W : WX} {k : Option Nat} {fa : Env → Out D} {e : Expr} {pos pos' : Pos}
theorem ds_raise {C m : Str} {j : Nat} {p p2 : Pos} (hc : X.calm = true) (tk : Takes X W) (q : ExP X.K (cA C)) (hg : Gl X C) (gC : X.mg C = some (.ref (cA C))) (hdb : (C == ("__debug__" : Str)) = false := by kernel_rfl) :
    DS X cA W k (dRaise C) (.Raise (some (.Call (.Name C p) [.Constant (.str m) j p2] [] pos)) none pos') :=
  ds_of (ps_raise hc tk (pmk_own PySem.F.excBase_ValueError q.exc gC q.keep (raises_own q.sub q.typ) hg hdb)) fun T σ H Z L ρ r w pp => pp _ _ _ H Z L r w ⟨rfl, .inl rfl⟩ Fr.refl Pin.refl
/-- a new exception's dict, frozen at once -/
theorem new_xd {K : PySem.W.Frag} {H : Hp} {Z : ZS} {ρ : Env} {σ : L2.St} {L : FP} {dx : Addr} {fs : List (Str × V)} (w : Wf H Z L) (r : RelL K cA H Z ρ σ L) (hn : H dx = none) :
    RelL K cA (upd H dx (.xd fs)) (ZU Z [dx]) ρ σ L ∧ Wf (upd H dx (.xd fs)) (ZU Z [dx]) L ∧ Fr H Z L (upd H dx (.xd fs)) (ZU Z [dx]) L := by
  refine ⟨relL_mono zu_sub (fun a o _ e => keep_new hn a o e) r, ?_, ?_⟩
  · exact (wf_new w hn (relL_trk r) : Wf (upd H dx (.xd fs)) Z ([dx] ++ L)).freeze fun a m => ⟨.xd fs, by
      have : a = dx := by simpa using m
      subst this; exact upd_same⟩
  · exact Fr.freeze (fp := [dx]) (M := L) (fr_new hn)
theorem ds_raiseV {C f : Str} {ok : At → Bool} {p : Pos} (hc : X.calm = true) (tk : Takes X W) (q : ExS X.prog X.w X.K X.mg X.base (cA C) f ok) (hr : Room 2 X.A) (hg : Gl X C) (gC : X.mg C = some (.ref (cA C))) (he : DE X cA W fa e)
    (hdb : (C == ("__debug__" : Str)) = false := by kernel_rfl) (hst : starEach [e] X.env = (false, eval e X.env) :: starEach [] X.env := by kernel_rfl) :
    DS X cA W k (dBind fa (stRaise C f ok)) (.Raise (some (.Call (.Name C p) [e] [] pos)) none pos') := by
  obtain ⟨fI, fd, pn, okV, T, F1, hb, hok⟩ := q.ex
  refine ds_of (ps_raise hc tk (pmk_oex (k := 1) T.ox T.iC T.tI F1 hr hb .nil passL hg gC (pa_cons he pa_nil hst) hdb hst (by rfl))) fun D σ H Z L ρ r w p => ?_
  show TEof X.K cA W fa σ H fun v H1 => _
  refine bind_te r w p fun d ρ1 v H1 Z1 L1 fp hd r1 w1 h1 F1 p => ?_
  unfold stRaise at p
  split at p
  · rename_i x
    split at p
    · rename_i hx
      obtain ⟨e1, e2⟩ := h1
      subst e1 e2
      refine ⟨by simp, fun a ha => ⟨rfl, a, x.v, rfl, hok x hx, upd_same, fun dx hdx hne => ⟨rfl, dx, [(f, x.v)], upd_same, ?_, ?_, ?_⟩⟩⟩
      · rw [upd_ne hne, upd_same]
      · rw [upd_ne hne] at hdx
        exact hdx
      · rw [upd_ne hne] at hdx
        have eH : upd (del (upd (upd (upd H1 a (exo a (cA C) none)) dx (exd dx [(f, x.v)])) a (exo a (cA C) (some dx))) a) dx (.xd [(f, x.v)]) = upd H1 dx (.xd [(f, x.v)]) := by
          funext b
          by_cases h1 : b = dx
          · subst h1; rw [upd_same, upd_same]
          · rw [upd_ne h1, upd_ne h1]
            by_cases h2 : b = a
            · subst h2; rw [del_same, ha]
            · rw [del_ne h2, upd_ne h2, upd_ne h1, upd_ne h2]
        rw [eH]
        obtain ⟨r2, w2, F2⟩ := new_xd (fs := [(f, x.v)]) w1 r1 hdx
        exact p _ _ _ _ _ _ r2 w2 ⟨rfl, .inr ⟨dx, rfl, .inr (by simp), upd_same⟩⟩ (F1.trans F2) Pin.refl
    · exact p.elim
  · exact p.elim
end

/-! ### try: clauses with and without a name -/
inductive HdX (X : Cx) : List ExceptHandler → List (Value × (Addr → Value → Option Addr → TS)) → Prop
  | nil : HdX X [] []
  | cons {x : Str} {c : Value} {ts : Addr → Value → Option Addr → TS} {b₀ : Stmt} {suite : List Stmt} {np pos' : Pos} {hds : List ExceptHandler} {l : List (Value × (Addr → Value → Option Addr → TS))} (hc : Names X x c)
      (hsu : ∀ (a : Addr) (oe : Obj) (cls : Value) (d : Option Addr) (pn : List (Addr × Obj)), Zc cls d oe → (∃ vs, oe.data = .fields vs) → PSs (X.suite a ((a, oe) :: pn)) (b₀ :: suite) (ts a cls d)) (r : HdX X hds l) :
      HdX X (.ExceptHandler (some (.Name x np)) none (b₀ :: suite) pos' :: hds) ((c, ts) :: l)
  | as {x n : Str} {i : Nat} {c : Value} {ts t0 : Addr → Value → Option Addr → TS} {b₀ : Stmt} {suite : List Stmt} {np pos' : Pos} {hds : List ExceptHandler} {l : List (Value × (Addr → Value → Option Addr → TS))} (hc : Names X x c) (hi : X.N[i]? = some n) (hln : X.env.kindOf n = some .local)
      (hsu : ∀ (a : Addr) (oe : Obj) (cls : Value) (d : Option Addr) (pn : List (Addr × Obj)), Zc cls d oe → (∃ vs, oe.data = .fields vs) → PSs (X.suite a ((a, oe) :: pn)) (b₀ :: suite) (t0 a cls d))
      (imp : ∀ a cls d D σ H, ts a cls d D σ H → t0 a cls d { nx := fun σ' H' => D.nx (σ'.set i none) H', rt := D.rt, bk := fun σ' H' => D.bk (σ'.set i none) H', ct := fun σ' H' => D.ct (σ'.set i none) H' } (σ.set i (some (.ref a))) H) (r : HdX X hds l) :
      HdX X (.ExceptHandler (some (.Name x np)) (some n) (b₀ :: suite) pos' :: hds) ((c, ts) :: l)
section
variable {X : Cx} {body : List Stmt} {h₀ : ExceptHandler} {hds : List ExceptHandler} {l : List (Value × (Addr → Value → Option Addr → TS))} {pos : Pos} {tb : WX → TS} {Wout : WX}
theorem ps_try_x (hs : X.stack = X.env :: X.outer) (hf : X.env.frame = some X.env.locals) (hN : X.N.Nodup) (tk : Takes X Wout)
    (hb : ∀ (W : WX) (pn : List (Addr × Obj)) (xe : Value → Shared → Prop), Takes (X.tr pn xe) W → PassesOwn (model X.prog X.w) X.A X.env xe → PSs (X.tr pn xe) body (tb W))
    (hh : HdX X (h₀ :: hds) l) : PS X (.Try body (h₀ :: hds) [] [] pos) (fun D σ H => tb (wMany X.K Wout D l) D σ H) := by
  refine ⟨fun pins s σ H D I h => ?_⟩
  have ok := I.ok
  have hfr : X.A.frames = some (X.env :: X.outer) := by rw [ok.frames, hs]
  refine wpAny_Try_except ?_
  refine wpAny_mono ((hb (wMany X.K Wout D l) (X.pn ++ pins) (fun e s₁ => wpAny (model X.prog X.w) X.A (noteFrame e X.env) (fun _ s₂ => wpAny (model X.prog X.w) X.A (setFlight e none) (fun _ s₃ =>
    wpAny (model X.prog X.w) X.A (handleBy e X.env (h₀ :: hds)) (SP X pins D) X.xe s₃) X.xe s₂) X.xe s₁) (fun u s' xx => ?_) PassesOwn.looking).run [] s σ H D (I.toTry _) h) (fun f s1 hsp => ?_) (fun e s1 he => he)
  · -- the catch
    obtain ⟨a, B, sI, pins', σ', H', cls, d, rfl, J', nb, up, sky, na, os, ag, w⟩ := xx
    have J : Inv X pins σ' H' sI := J'.ofTry ok
    have sky' : Sky B (X.env :: X.outer) a (Zc cls d) X.env.locals s'.heap := by rw [← hs]; exact sky
    show wpAny (model X.prog X.w) X.A (noteFrame (.ref a) X.env) _ _ _
    refine Sky.land Zc.steady hfr hf sky' fun h3 fl3 up3 => ?_
    have J3 : Inv X pins σ' H' { s' with heap := h3 } := J.landed nb fl3.1 (up.trans up3) os ag
    obtain ⟨oe3, vs3, he3, hz3, hd3⟩ := fl3.there
    have notFr : ∀ {h : Heap} {o : Obj} {vs : Array Value}, h.FunFrames B (X.env :: X.outer) → h.get? a = some o → o.data = .fields vs → a ∉ frs (X.env :: X.outer) := fun {h o vs} ff e dd hm => by
      obtain ⟨_, o', e', hnf⟩ := ff.mem hm
      rw [e] at e'; cases e'
      exact hnf _ dd
    have nfr := notFr fl3.2.2.1 he3 hd3
    have nL : a ≠ X.env.locals := fun z => nfr (List.mem_filterMap.mpr ⟨X.env, List.mem_cons_self, by rw [hf, z]⟩)
    have nF : a ∉ X.fs := fun hm => by
      obtain ⟨e, he, q⟩ := List.mem_filterMap.mp hm
      exact nfr (List.mem_filterMap.mpr ⟨e, List.mem_cons_of_mem _ he, q⟩)
    have S3 := J3.suite he3 hd3 na nL nF
    have go : ∀ {hds' : List ExceptHandler} {l' : List (Value × (Addr → Value → Option Addr → TS))}, HdX X hds' l' → wMany X.K Wout D l' cls d σ' H' →
        wpAny (model X.prog X.w) X.A (handleBy (.ref a) X.env hds') (SP X pins D) X.xe { s' with heap := h3 } := by
      intro hds' l' hk
      induction hk with
      | nil =>
        intro w
        refine wpAny_handleBy_nil ?_
        obtain ⟨k1, k2, k3, oe, vs, T, oT, ts', he, hz, hd, h1, hr⟩ := id fl3
        unfold PySem.passOn
        refine wpAny_bind (wpAny_field he hd h1 ?_)
        rw [if_neg (show ¬ ((Value.ref T == Value.none) = true) from by simp)]
        have fin : wpAny (model X.prog X.w) X.A (setFlight (.ref a) X.env.frame) (fun _ s4 => wpAny (model X.prog X.w) X.A (throw (.ref a) : Sem Flow) (SP X pins D) X.xe s4) X.xe { s' with heap := h3 } := by
          rw [hf]
          refine HandSPX.setFlight_upZ fl3 fun h4 hh4 up4 => wpAny_throw (tk _ _ ?_)
          exact ⟨a, B, sI, pins, σ', H', cls, d, rfl, J, nb, (up.trans up3).trans up4, .inr (.inr (by rw [hs]; exact hh4)), na, os, ag, w⟩
        first
          | exact wpAny_bind (wpAny_pure (wpAny_bind fin))
          | exact wpAny_bind fin
      | @cons x c ts b₀ suite np pos' hds2 l2 hc hsu r ih =>
        intro w
        obtain ⟨b, hb1, hyes, hno⟩ := w
        refine wpAny_handleBy_cons (codeAny_handlers_test ?_) (by intro q; cases q)
        have LT : PySem.W.Looks (model X.prog X.w) h3 (typeOf (.ref a)) cls := fun A Q E s k q => wpAny_typeOf_ref (k _ _ he3) (by rw [hz3.1]; exact q)
        have LM := PySem.W.exm_one (M := model X.prog X.w) (J3.kIn) LT hb1
        have test : ∀ {Q : Value → Shared → Prop} {E : Value → Shared → Prop}, Q c { s' with heap := h3 } → wpAny (model X.prog X.w) (X.A.mark (some (.ref a))) (eval (.Name x np) X.env) Q E { s' with heap := h3 } := fun {Q E} q => by
          obtain ⟨hg, hdbg, hm | ⟨hm, hv, hnn⟩⟩ := hc
          · exact ld_glob (X := X.suite a ((a, oe3) :: (X.pn ++ pins))) S3 hg hm q hdbg
          · exact ld_blt (X := X.suite a ((a, oe3) :: (X.pn ++ pins))) S3 hg hm hv q hnn hdbg
        refine test (LM.here ?_)
        cases b with
        | true =>
          refine codeAny_handlers_suite ?_
          refine HandSPX.lands_againZ fl3 fun h4 fl4 up4 => ?_
          have J4 : Inv X pins σ' H' { s' with heap := h4 } := J.landed nb fl4.1 ((up.trans up3).trans up4) os ag
          obtain ⟨oe4, vs4, he4, hz4, hd4⟩ := fl4.there
          have S4 := J4.suite he4 hd4 na nL nF
          refine wpAny_mono ((hsu a oe4 cls d (X.pn ++ pins) hz4 ⟨_, hd4⟩).run [] _ _ H' _ S4 (hyes rfl a na)) (fun f s6 hsp => ?_) (fun _ _ z => False.elim z)
          cases f with
          | next =>
            obtain ⟨σ6, H6, S6, q6⟩ := hsp
            exact ⟨_, _, S6.unsuite ok, q6⟩
          | brk =>
            obtain ⟨σ6, H6, S6, q6⟩ := hsp
            exact ⟨_, _, S6.unsuite ok, q6⟩
          | cont =>
            obtain ⟨σ6, H6, S6, q6⟩ := hsp
            exact ⟨_, _, S6.unsuite ok, q6⟩
          | ret u =>
            obtain ⟨v6, σ6, H6, S6, r6, q6⟩ := hsp
            exact ⟨_, _, _, S6.unsuite ok, r6, q6⟩
        | false =>
          show wpAny _ X.A (handleBy (.ref a) X.env hds2) _ _ _
          exact ih (hno rfl)
      | @as x n i c ts t0 b₀ suite np pos' hds2 l2 hc hi hln hsu imp r ih =>
        intro w
        obtain ⟨b, hb1, hyes, hno⟩ := w
        have hloc : Loc X.env.scope n := .inl hln
        refine wpAny_handleBy_cons (codeAny_handlers_test ?_) (by intro q; cases q)
        have LT : PySem.W.Looks (model X.prog X.w) h3 (typeOf (.ref a)) cls := fun A Q E s k q => wpAny_typeOf_ref (k _ _ he3) (by rw [hz3.1]; exact q)
        have LM := PySem.W.exm_one (M := model X.prog X.w) (J3.kIn) LT hb1
        have test : ∀ {Q : Value → Shared → Prop} {E : Value → Shared → Prop}, Q c { s' with heap := h3 } → wpAny (model X.prog X.w) (X.A.mark (some (.ref a))) (eval (.Name x np) X.env) Q E { s' with heap := h3 } := fun {Q E} q => by
          obtain ⟨hg, hdbg, hm | ⟨hm, hv, hnn⟩⟩ := hc
          · exact ld_glob (X := X.suite a ((a, oe3) :: (X.pn ++ pins))) S3 hg hm q hdbg
          · exact ld_blt (X := X.suite a ((a, oe3) :: (X.pn ++ pins))) S3 hg hm hv q hnn hdbg
        refine test (LM.here ?_)
        cases b with
        | true =>
          refine codeAny_handlers_suite_as ?_
          refine HandSPX.lands_againZ fl3 fun h4 fl4 up4 => ?_
          have J4 : Inv X pins σ' H' { s' with heap := h4 } := J.landed nb fl4.1 ((up.trans up3).trans up4) os ag
          obtain ⟨oe4, vs4, he4, hz4, hd4⟩ := fl4.there
          have S4 := J4.suite he4 hd4 na nL nF
          refine store_ok (X := X.suite a ((a, oe4) :: (X.pn ++ pins))) (v := .ref a) S4 hN hi hloc rfl (fun s5 S5 => ?_) (.inr hln)
          refine wpAny_mono ((hsu a oe4 cls d (X.pn ++ pins) hz4 ⟨_, hd4⟩).run [] s5 _ H' _ S5 (imp _ _ _ _ _ _ (hyes rfl a na))) (fun f s6 hsp => ?_) (fun _ _ z => False.elim z)
          have end_ : ∀ {σ6 : L2.St} {H6 : Hp} {Q : Shared → Prop}, Inv (X.suite a ((a, oe4) :: (X.pn ++ pins))) [] σ6 H6 s6 → (∀ s7, Inv X pins (σ6.set i none) H6 s7 → Q s7) →
              wpAny (model X.prog X.w) X.A (do bindName X.env n .none; unbindBehindTheSuite X.env n pos') (fun _ s7 => Q s7) X.xe s6 := fun {σ6 H6 Q} S6 hq => gone_ok (S6.unsuite ok) hN hi hln hq
          cases f with
          | next =>
            obtain ⟨σ6, H6, S6, q6⟩ := hsp
            exact end_ S6 fun s7 J7 => ⟨_, _, J7, q6⟩
          | brk =>
            obtain ⟨σ6, H6, S6, q6⟩ := hsp
            exact end_ S6 fun s7 J7 => ⟨_, _, J7, q6⟩
          | cont =>
            obtain ⟨σ6, H6, S6, q6⟩ := hsp
            exact end_ S6 fun s7 J7 => ⟨_, _, J7, q6⟩
          | ret u =>
            obtain ⟨v6, σ6, H6, S6, r6, q6⟩ := hsp
            exact end_ S6 fun s7 J7 => ⟨_, _, _, J7, r6, q6⟩
        | false =>
          show wpAny _ X.A (handleBy (.ref a) X.env hds2) _ _ _
          exact ih (hno rfl)
    exact go hh w
  · cases f with
    | next =>
      obtain ⟨σ', H', J', q⟩ := hsp
      exact wpAny_execs_nil ⟨σ', H', J'.ofTry ok, q⟩
    | brk =>
      obtain ⟨σ', H', J', q⟩ := hsp
      exact ⟨σ', H', J'.ofTry ok, q⟩
    | cont =>
      obtain ⟨σ', H', J', q⟩ := hsp
      exact ⟨σ', H', J'.ofTry ok, q⟩
    | ret u =>
      obtain ⟨v, σ', H', J', r, q⟩ := hsp
      exact ⟨v, σ', H', J'.ofTry ok, r, q⟩
end

/-! ### .. on data -/
abbrev Hd := Str × List (Str × Bool) × (Exn → Env → Fl)
/-- a suite raises nothing -/
def noEx : Fl → Fl
  | .ex _ _ => .st
  | r => r
theorem postS_w {K : PySem.W.Frag} {cA : Str → Addr} {W : WX} {k : Option Nat} {σ : L2.St} {H : Hp} {Z : ZS} {L : FP} {T : Ends} {o : Fl} (p : PostS K cA W k σ H Z L T (noEx o)) : PostS K cA WN k σ H Z L T o := by
  cases o <;> first | exact p | exact p.elim
def dCatch : List Hd → Exn → Env → Fl
  | [], e, ρ => .ex e ρ
  | (_, m, h) :: r, e, ρ => match m.lookup e.c with
    | some true => noEx (h e ρ)
    | some false => dCatch r e ρ
    | none => .st
def dTry (b : Env → Fl) (hs : List Hd) : Env → Fl := fun ρ => match b ρ with
  | .ex e ρ1 => dCatch hs e ρ1
  | r => r
section
variable (K : PySem.W.Frag) (cA : Str → Addr)
def tsD (k : Option Nat) (h : Exn → Env → Fl) : Addr → Value → Option Addr → TS := fun a cls d D σ H => ∃ ex Z L ρ, RelL K cA H Z ρ σ L ∧ Wf H Z L ∧ ExR cA H Z ex cls d ∧ PostS K cA WN k σ H Z L D (h ex ρ)
end
/-- an expression of a caught exception: its value an atom -/
def TSE (cA : Str → Addr) (i : Nat) (a : Addr) (cls : Value) (d : Option Addr) (g : Exn → Option At) : TE := fun σ H Q => ∃ ex x Z, Wf H Z [] ∧ σ[i]? = some (some (V.ref a)) ∧ ExR cA H Z ex cls d ∧ g ex = some x ∧ ∀ H' Z', Wf H' Z' [] → Fr H Z [] H' Z' [] → Q x.v H'
/-- the suite: return e -/
def hRet (i : Nat) (g : Exn → Option At) : Exn → Env → Fl := fun ex ρ => match g ex with
  | some x => if i < ρ.length then .rt (.a x) (ρ.set i none) else .st
  | none => .st
def Matches (K : PySem.W.Frag) (cA : Str → Addr) (C : Str) (m : List (Str × Bool)) : Prop := ∀ c b, m.lookup c = some b → PySem.W.exmOne K (.ref (cA c)) (.ref (cA C)) = some b
theorem matches_nil {K : PySem.W.Frag} {cA : Str → Addr} {C : Str} : Matches K cA C [] := fun c b h => by cases h
theorem matches_cons {K : PySem.W.Frag} {cA : Str → Addr} {C x : Str} {b : Bool} {m : List (Str × Bool)} (h : PySem.W.exmOne K (.ref (cA x)) (.ref (cA C)) = some b) (r : Matches K cA C m) : Matches K cA C ((x, b) :: m) := fun c b' e => by
  by_cases hc : (c == x) = true
  · simp only [List.lookup, hc] at e
    cases e
    rw [beq_iff_eq.mp hc]
    exact h
  · simp only [List.lookup, (Bool.not_eq_true _).mp hc] at e
    exact r c b' e
inductive DHs (X : Cx) (cA : Str → Addr) (k : Option Nat) : List ExceptHandler → List Hd → Prop
  | nil : DHs X cA k [] []
  | cons {C : Str} {m : List (Str × Bool)} {f : Env → Fl} {b₀ : Stmt} {suite : List Stmt} {np pos' : Pos} {hds : List ExceptHandler} {l : List Hd} (hc : Names X C (.ref (cA C))) (hm : Matches X.K cA C m)
      (hsu : ∀ (a : Addr) (oe : Obj) (cls : Value) (d : Option Addr) (pn : List (Addr × Obj)), Zc cls d oe → (∃ vs, oe.data = .fields vs) → DSs (X.suite a ((a, oe) :: pn)) cA WN k f (b₀ :: suite)) (r : DHs X cA k hds l) :
      DHs X cA k (.ExceptHandler (some (.Name C np)) none (b₀ :: suite) pos' :: hds) ((C, m, fun _ => f) :: l)
  | as {C n : Str} {i : Nat} {m : List (Str × Bool)} {g : Exn → Option At} {e : Expr} {np pos' rp : Pos} {hds : List ExceptHandler} {l : List Hd} (hc : Names X C (.ref (cA C))) (hm : Matches X.K cA C m) (hi : X.N[i]? = some n) (hln : X.env.kindOf n = some .local)
      (hsu : ∀ (a : Addr) (oe : Obj) (cls : Value) (d : Option Addr) (pn : List (Addr × Obj)), Zc cls d oe → (∃ vs, oe.data = .fields vs) → PE (X.suite a ((a, oe) :: pn)) e (TSE cA i a cls d g)) (r : DHs X cA k hds l) :
      DHs X cA k (.ExceptHandler (some (.Name C np)) (some n) [.Return (some e) rp] pos' :: hds) ((C, m, hRet i g) :: l)
section
variable {X : Cx} {cA : Str → Addr} {k : Option Nat} {W : WX}
theorem DHs.hdx : ∀ {hds : List ExceptHandler} {l : List Hd}, DHs X cA k hds l → HdX X hds (l.map fun q => (.ref (cA q.1), tsD X.K cA k q.2.2))
  | _, _, .nil => .nil
  | _, _, .cons hc hm hsu r => by
    refine .cons hc (fun a oe cls d pn hz hf => PSs.imp (hsu a oe cls d pn hz hf) fun D σ H ⟨ex, Z, L, ρ, r1, w1, x1, p⟩ => ⟨Z, L, ρ, r1, w1, p⟩) r.hdx
  | _, _, .as (i := i) hc hm hi hln hsu r => by
    refine .as (i := i) hc hi hln (fun a oe cls d pn hz hf => pss_one (ps_ret (hsu a oe cls d pn hz hf))) (fun a cls d D σ H ⟨ex, Z, L, ρ, r1, w1, x1, p⟩ => ?_) r.hdx
    dsimp only at p
    unfold hRet at p
    split at p
    · rename_i x hx
      split at p
      · rename_i hil
        rw [← relL_len r1] at hil
        refine ⟨ex, x, Z, wf0 w1, by rw [List.getElem?_set_self hil], x1, hx, fun H' Z' w' F' => ?_⟩
        obtain ⟨r2, w2, F2⟩ := hand0 w1 r1 F' w'
        obtain ⟨L', hs, r3⟩ := relL_none i r2
        exact p _ σ H' Z' L' [] r3 ((w2.less (by simpa using hs)) : Wf H' Z' ([] ++ L')) ⟨rfl, rfl⟩ (F2.less fun y m => by simp at m ⊢; exact hs.subset m) Pin.refl
      · exact p.elim
    · exact p.elim
theorem ds_try {b : Env → Fl} {hs : List Hd} {body : List Stmt} {h₀ : ExceptHandler} {hds : List ExceptHandler} {pos : Pos} (hst : X.stack = X.env :: X.outer) (hf : X.env.frame = some X.env.locals) (hN : X.N.Nodup) (tk : Takes X W)
    (hb : ∀ (W' : WX) (pn : List (Addr × Obj)) (xe : Value → Shared → Prop), Takes (X.tr pn xe) W' → PassesOwn (model X.prog X.w) X.A X.env xe → DSs (X.tr pn xe) cA W' k b body) (hh : DHs X cA k (h₀ :: hds) hs) :
    DS X cA W k (dTry b hs) (.Try body (h₀ :: hds) [] [] pos) := by
  refine ds_of (ps_try_x (tb := fun W' => TSof X.K cA W' k b) hst hf hN tk hb hh.hdx) fun D σ H Z L ρ r w p => ?_
  refine ⟨Z, L, ρ, r, w, ?_⟩
  unfold dTry at p
  cases hbr : b ρ with
  | st => rw [hbr] at p; exact p
  | nx ρ1 => rw [hbr] at p; exact p
  | bk ρ1 => rw [hbr] at p; exact p
  | ct ρ1 => rw [hbr] at p; exact p
  | rt d ρ1 => rw [hbr] at p; exact p
  | ex e ρ1 =>
    rw [hbr] at p
    dsimp only at p
    intro cls d σ1 H1 Z1 L1 r1 w1 x1 F1 q1
    have p1 := postS_tr F1 q1 p
    clear p hb hbr
    generalize hE : h₀ :: hds = E at hh
    clear hE
    induction hh with
    | nil => exact p1 cls d σ1 H1 Z1 L1 r1 w1 x1 Fr.refl Pin.refl
    | cons hc hm hsu r ih =>
      unfold dCatch at p1
      split at p1
      · rename_i hl
        exact ⟨true, by rw [x1.1]; exact hm _ _ hl, fun _ a ha => ⟨e, Z1, L1, ρ1, r1, w1, x1, postS_w p1⟩, fun z => (nomatch z)⟩
      · rename_i hl
        exact ⟨false, by rw [x1.1]; exact hm _ _ hl, fun z => (nomatch z), fun _ => ih p1⟩
      · exact p1.elim
    | as hc hm hi hln hsu r ih =>
      unfold dCatch at p1
      split at p1
      · rename_i hl
        exact ⟨true, by rw [x1.1]; exact hm _ _ hl, fun _ a ha => ⟨e, Z1, L1, ρ1, r1, w1, x1, postS_w p1⟩, fun z => (nomatch z)⟩
      · rename_i hl
        exact ⟨false, by rw [x1.1]; exact hm _ _ hl, fun z => (nomatch z), fun _ => ih p1⟩
      · exact p1.elim
end
end DL
namespace DL
open PySem L2 PyProof.Rows NdefX

/-! ### expressions of a caught exception -/
theorem exR_keep {cA : Str → Addr} {H H' : Hp} {Z Z' : ZS} {ex : Exn} {cls : Value} {d : Option Addr} (x : ExR cA H Z ex cls d) (F : Fr H Z [] H' Z' []) : ExR cA H' Z' ex cls d := by
  refine ⟨x.1, ?_⟩
  rcases x.2 with h | ⟨dd, h1, h2, h3⟩
  · exact .inl h
  · exact .inr ⟨dd, h1, F.zm _ h2, F.keep _ _ h3 (by simp)⟩
def sC (y : At) : Exn → Option At := fun _ => some y
def sF (C f : Str) : Exn → Option At := fun ex => if ex.c = C then ex.fs.lookup f else none
def sOp (g2 : D → D → Option D) (g h : Exn → Option At) : Exn → Option At := fun ex => match g ex with
  | some x => (match h ex with
    | some y => (match g2 (.a x) (.a y) with
      | some (.a z) => some z
      | _ => none)
    | none => none)
  | none => none
def sU (g2 : D → Option D) (g : Exn → Option At) : Exn → Option At := fun ex => match g ex with
  | some x => (match g2 (.a x) with
    | some (.a z) => some z
    | _ => none)
  | none => none
def sAnd (g h : Exn → Option At) : Exn → Option At := fun ex => match g ex with
  | some (.bl true) => h ex
  | some (.bl false) => some (.bl false)
  | _ => none
def sNot (g : Exn → Option At) : Exn → Option At := fun ex => match g ex with
  | some (.bl b) => some (.bl (!b))
  | _ => none
section
variable {X : Cx} {cA : Str → Addr} {i : Nat} {a : Addr} {cls : Value} {d : Option Addr} {g h : Exn → Option At} {e e2 : Expr} {pos : Pos}
theorem se_str {s : Str} {j} : PE X (.Constant (.str s) j pos) (TSE cA i a cls d (sC (.str s))) := PE.imp pe_str fun σ H Q ⟨ex, x, Z, w, _, _, e, q⟩ => by
  cases e; exact q H Z w Fr.refl
theorem se_int {n : Int} {j} : PE X (.Constant (.int n) j pos) (TSE cA i a cls d (sC (.int n))) := PE.imp pe_int fun σ H Q ⟨ex, x, Z, w, _, _, e, q⟩ => by
  cases e; exact q H Z w Fr.refl
theorem se_bl {b : Bool} {j} : PE X (.Constant (.bool b) j pos) (TSE cA i a cls d (sC (.bl b))) := PE.imp pe_bl fun σ H Q ⟨ex, x, Z, w, _, _, e, q⟩ => by
  cases e; exact q H Z w Fr.refl
theorem lookup_v (f : Str) : ∀ l : List (Str × At), (l.map fun p => (p.1, p.2.v)).lookup f = (l.lookup f).map At.v
  | [] => rfl
  | (x, y) :: l => by
    by_cases h : (f == x) = true
    · simp [List.lookup, h]
    · simp only [List.map_cons, List.lookup, (Bool.not_eq_true _).mp h]
      exact lookup_v f l
theorem se_fld {C f : Str} {oe : Obj} {pn : List (Addr × Obj)} (T : XfC X.K (cA C)) (hno : PySem.W.findIn X.K (.ref (cA C)) f = some none) (hz : Zc cls d oe) (hf : ∃ vs, oe.data = .fields vs) (he : PE (X.suite a ((a, oe) :: pn)) e (tVar i)) (hb : attributeBase e f X.env (eval e X.env) = eval e X.env := by kernel_rfl) :
    PE (X.suite a ((a, oe) :: pn)) (.Attribute e f pos) (TSE cA i a cls d (sF C f)) := PE.imp (pe_xf T hno hz hf he hb) fun σ H Q ⟨ex, x, Z, w, hσ, hx, e, q⟩ => by
  unfold sF at e
  split at e
  · rename_i hc
    refine ⟨_, hσ, rfl, by rw [hx.1, hc], ?_⟩
    rcases hx.2 with hf | ⟨dd, h1, h2, h3⟩
    · rw [hf] at e; cases e
    · exact ⟨dd, _, x.v, h1, h3, by rw [lookup_v, e]; rfl, q H Z w Fr.refl⟩
  · cases e
theorem wfZ {H : Hp} {Z : ZS} (w : Wf H Z []) : Wf H Z ([] ++ []) := w
theorem se_op {op : CmpOp} {g2 : D → D → Option D} (C : CR2 X cA op g2) (ha : PE X e (TSE cA i a cls d g)) (hb : PE X e2 (TSE cA i a cls d h)) : PE X (.Compare e [op] [e2] pos) (TSE cA i a cls d (sOp g2 g h)) := by
  obtain ⟨r, ho, V, h1, h2⟩ := C.ex
  refine PE.imp (pe_cmpR ho ha hb (nomark e2 h1 h2)) fun σ H Q ⟨ex, z, Z, w, hσ, hx, eq, q⟩ => ?_
  unfold sOp at eq
  split at eq
  · rename_i x ex1
    split at eq
    · rename_i y ey1
      split at eq
      · rename_i z' hz
        cases eq
        refine ⟨ex, x, Z, w, hσ, hx, ex1, fun H1 Z1 w1 F1 => ⟨ex, y, Z1, w1, hσ, exR_keep hx F1, ey1, fun H2 Z2 w2 F2 => ?_⟩⟩
        refine V.run (d1 := .a x) (d2 := .a y) (f1 := []) (f2 := []) (Z := Z2) ⟨rfl, rfl⟩ ⟨rfl, rfl⟩ w2 hz fun v H3 Z3 fp h3 w3 F3 => ?_
        obtain ⟨e3, e4⟩ := h3
        subst e3 e4
        exact q H3 Z3 w3 ((F1.trans F2).trans F3)
      · cases eq
    · cases eq
  · cases eq
theorem se_and (ha : PE X e (TSE cA i a cls d g)) (hb : PE X e2 (TSE cA i a cls d h)) : PE X (.BoolOp .And [e, e2] pos) (TSE cA i a cls d (sAnd g h)) :=
  PE.imp (pe_and ha (pe_one hb)) fun σ H Q ⟨ex, z, Z, w, hσ, hx, eq, q⟩ => by
    unfold sAnd at eq
    split at eq
    · rename_i e1
      exact ⟨ex, .bl true, Z, w, hσ, hx, e1, fun H1 Z1 w1 F1 => ⟨true, rfl, by
        rw [if_pos rfl]
        exact ⟨ex, z, Z1, w1, hσ, exR_keep hx F1, eq, fun H2 Z2 w2 F2 => q H2 Z2 w2 (F1.trans F2)⟩⟩⟩
    · rename_i e1
      cases eq
      exact ⟨ex, .bl false, Z, w, hσ, hx, e1, fun H1 Z1 w1 F1 => ⟨false, rfl, by
        rw [if_neg Bool.false_ne_true]
        exact q H1 Z1 w1 F1⟩⟩
    · cases eq
theorem se_not (ha : PE X e (TSE cA i a cls d g)) : PE X (.UnaryOp .Not e pos) (TSE cA i a cls d (sNot g)) :=
  PE.imp (pe_not ha) fun σ H Q ⟨ex, z, Z, w, hσ, hx, eq, q⟩ => by
    unfold sNot at eq
    split at eq
    · rename_i b e1
      cases eq
      exact ⟨ex, .bl b, Z, w, hσ, hx, e1, fun H1 Z1 w1 F1 => ⟨b, rfl, q H1 Z1 w1 F1⟩⟩
    · cases eq
theorem se_isi {x : Str} {T : String} {p q : Pos} (hg : Gl X "isinstance") (hm : X.mg "isinstance" = none) (hg2 : Gl X x) (hm2 : X.mg x = none) (hv2 : bootBuiltins x = some (.type T)) (hT : T ∈ tyAll) (ha : PE X e (TSE cA i a cls d g))
    (hn2 : x ≠ "__name__" := by decide +kernel) (hd2 : (x == ("__debug__" : Str)) = false := by kernel_rfl)
    (hs1 : starEach [e, .Name x q] X.env = (false, eval e X.env) :: starEach [.Name x q] X.env := by kernel_rfl) (hs2 : starEach [.Name x q] X.env = (false, eval (.Name x q) X.env) :: starEach [] X.env := by kernel_rfl) (hpl : (backTo pos (starEach [.Name x q] X.env)).any (·.1) = false := by kernel_rfl) :
    PE X (.Call (.Name "isinstance" p) [e, .Name x q] [] pos) (TSE cA i a cls d (sU (gIsi T) g)) :=
  PE.imp (pe_callB call_isi hg hm PyProof.Rows.boot_isinstance (pa_cons ha (pa_cons (pe_bltn (v := .ty T) hg2 hm2 hv2 rfl hn2 hd2) pa_nil hs2) hs1) (by decide) (by decide) hs1 hpl) fun σ H Q ⟨ex, z, Z, w, hσ, hx, eq, q⟩ => by
    unfold sU at eq
    split at eq
    · rename_i y ey
      split at eq
      · rename_i z' hz
        cases eq
        exact ⟨ex, y, Z, w, hσ, hx, ey, fun H1 Z1 w1 F1 => (vu_isi (cA := cA) hT).run (d1 := .a y) (f1 := []) ⟨rfl, rfl⟩ w1 hz fun v H3 Z3 fp h3 w3 F3 => by
          obtain ⟨e3, e4⟩ := h3
          subst e3 e4
          exact q H3 Z3 w3 (F1.trans F3)⟩
      · cases eq
    · cases eq
/-- isinstance(e, C), e an exception without own fields -/
theorem se_isE {C D : Str} {oe : Obj} {pn : List (Addr × Obj)} {p q : Pos} {b : Bool} (T : ExcC X.K (cA D)) (kit : PySem.W.kitOne X.K (.ref (cA D)) (.ref (cA C)) = some b) (hz : Zc cls d oe) (hf : ∃ vs, oe.data = .fields vs) (hcl : cls = .ref (cA D)) (hd : d = none) (he : PE (X.suite a ((a, oe) :: pn)) e (tVar i)) (hg : Gl X "isinstance") (hm : X.mg "isinstance" = none)
    (hg2 : Gl X C) (hm2 : X.mg C = some (.ref (cA C))) (hd2 : (C == ("__debug__" : Str)) = false := by kernel_rfl)
    (hs1 : starEach [e, .Name C q] X.env = (false, eval e X.env) :: starEach [.Name C q] X.env := by kernel_rfl) (hs2 : starEach [.Name C q] X.env = (false, eval (.Name C q) X.env) :: starEach [] X.env := by kernel_rfl) (hpl : (backTo pos (starEach [.Name C q] X.env)).any (·.1) = false := by kernel_rfl) :
    PE (X.suite a ((a, oe) :: pn)) (.Call (.Name "isinstance" p) [e, .Name C q] [] pos) (TSE cA i a cls d (sC (.bl b))) := by
  subst hcl hd
  exact PE.imp (pe_callB (X := X.suite a ((a, oe) :: pn)) (call_isE T hz hf) hg hm PyProof.Rows.boot_isinstance (pa_cons he (pa_cons (pe_glob (v := .ref (cA C)) hg2 hm2 rfl hd2) pa_nil hs2) hs1) (by decide) (by decide) hs1 hpl) fun σ H Q ⟨ex, z, Z, w, hσ, hx, eq, q⟩ => by
    cases eq
    exact ⟨_, hσ, .ref (cA C), .ref (cA C), b, rfl, fun u hu => hu, kit, q H Z w Fr.refl⟩
end
theorem cr_eqA {X : Cx} {cA : Str → Addr} : CR2 X cA .Eq gEqA := ⟨_, op_eq, vop_eqA, by decide, by decide⟩

/-! ### what the head says: defs, facts, __init__s of exceptions, any other fact -/
abbrev FnC : Type := Option (Str × Str × Arguments × FuncBody × Scope × Addr × Addr)
def fnC (K : PySem.W.Frag) (p : Str × Option Str) : FnC := match K.lookup (He.fAd K p) with
  | some ⟨_, _, .func fd, _⟩ => some (fd.name, fd.qualname, fd.params, fd.body, fd.scope, fd.globals, fd.builtins)
  | _ => none
def oexB (K : PySem.W.Frag) (C : Addr) : Bool := (match K.lookup C with
  | some ⟨.type "type", _, .cls cd, sl⟩ => (match cd.mro, sl.toList with
    | .ref C' :: bm, [_, _, _, _, some (.builtin n), _] => C' == C && (n == "ValueError.__new__" && (!cd.hasDel && (cd.hasDict && PySem.HandSPX.refsVE bm)))
    | _, _ => false)
  | _ => false) && (decide (PySem.W.findIn K (.ref C) "__setattr__" = some (some (.builtin "object.__setattr__"))) && (decide (PySem.W.subIn K (.ref C) (.type "BaseException") = some true) && (decide (PySem.W.typeIn K (.ref C) = some (.type "type")) && PySem.W.keepIn K (.ref C))))
theorem oexB_ok {K : PySem.W.Frag} {C : Addr} (h : oexB K C = true) : OexC K C := by
  unfold oexB at h
  rw [Bool.and_eq_true] at h
  obtain ⟨h0, h⟩ := h
  simp only [Bool.and_eq_true, decide_eq_true_eq] at h
  obtain ⟨h1, h2, h3, h4⟩ := h
  refine ⟨?_, h1, h2, h3, h4⟩
  split at h0
  · rename_i dd cd sl ho
    split at h0
    · rename_i C' bm k0 k1 k2 k3 n k5 hm hs
      simp only [Bool.and_eq_true, beq_iff_eq, Bool.not_eq_true'] at h0
      obtain ⟨rfl, rfl, hdel, hdict, hve⟩ := h0
      obtain ⟨nm, bs, mro, ns, qn, hd, sn, sub, ab, col, del⟩ := cd
      dsimp only at hm hdel hdict
      subst hm hdel hdict
      have hsl : sl = #[k0, k1, k2, k3, some (.builtin "ValueError.__new__"), k5] := by
        obtain ⟨l⟩ := sl
        simp only at hs
        rw [hs]
      subst hsl
      exact ⟨nm, qn, ns, bs, bm, sn, sub, ab, col, dd, k0, k1, k2, k3, k5, ho, hve⟩
    · cases h0
  · cases h0
/-- an exception class x, its one field f, the file -/
def supB (file : Str) (K : PySem.W.Frag) (C fI : Addr) (f : Str) : Bool := oexB K C && (decide (PySem.W.findIn K (.ref C) "__init__" = some (some (.ref fI))) && (decide (PySem.W.typeIn K (.ref fI) = some (.type "function")) && (decide (PySem.W.findIn K (.ref C) f = some none) &&
  ((PySem.W.clsIn K C).isSome && (decide (PySem.W.mroIn K C (.ref C) = some true) && (decide (PySem.W.ks_superIn K C C "__init__" = some (some (.builtin "ValueError.__init__"))) && (decide (PySem.W.subIn K (.ref C) (.type "ValueError") = some true) &&
  (decide (PySem.W.nsIn K cStatics "thirdparty.any" = some none) && (match K.lookup fI with
    | some ⟨_, _, .func fd, _⟩ => (match fd.defaults, fd.kwdefaults, fd.annotations, fd.code, fd.closure with
      | .none, .none, none, .ref c, [(x, cc)] => PySem.W.codeIn K (.ref c) fd.qualname && (decide (x = "__class__") && ((match K.lookup cc with
        | some ⟨_, _, .cell (some (.ref D)), _⟩ => D == C
        | _ => false) && (match K.lookup c with
        | some ⟨_, _, .fields vs, _⟩ => (match (vs[2]? : Option Value) with
          | some (Value.str z _) => file == z
          | _ => false)
        | _ => false)))
      | _, _, _, _, _ => false)
    | _ => false)))))))))

theorem supB_ok {P : Program} {file : Str} {K : PySem.W.Frag} {C : Addr} {f : Str} {p : Str × Option Str} {name qual : Str} {params : Arguments} {body : List Stmt} {scope : Scope} (h : supB file K C (He.fAd K p) f = true) (e : fnC K p = some (name, qual, params, .stmts body, scope, mainGlobals, builtinsNs))
    (hfile : P.main.file = file) (htop : (P.main.scope.names.lookup ("super" : Str)).isSome = false) :
    ∃ fd cl c, SupC P K C (He.fAd K p) f ∧ SupF P K C (He.fAd K p) fd ⟨name, qual, params, body, scope, cl, c⟩ := by
  unfold supB at h
  simp only [Bool.and_eq_true, decide_eq_true_eq] at h
  obtain ⟨h0, h1, h2, h3, h4, h5, h6, h7, h8, h9⟩ := h
  have ox := oexB_ok h0
  obtain ⟨cd, hcd⟩ := Option.isSome_iff_exists.mp h4
  have SC : SupC P K C (He.fAd K p) f := ⟨ox, ox.kC, h1, h2, h3, ⟨cd, hcd, h5⟩, h6, h7, h8, htop⟩
  unfold fnC at e
  cases q : K.lookup (He.fAd K p) with
  | none => rw [q] at h9; cases h9
  | some o =>
    obtain ⟨oc, od, dt, osl⟩ := o
    rw [q] at h9 e
    cases dt with
    | func fd =>
      obtain ⟨n1, n2, n3, n4, n5, n6, n7, n8, n9, n10, n11, n12, n13, n14, n15⟩ := fd
      dsimp only at h9 e
      simp only [Option.some.injEq, Prod.mk.injEq] at e
      obtain ⟨e1, e2, e3, e4, e5, e6, e7⟩ := e
      subst e1 e2 e3 e4 e5 e6 e7
      split at h9
      · rename_i c x cc
        simp only [Bool.and_eq_true, decide_eq_true_eq] at h9
        obtain ⟨k1, rfl, k3, k4⟩ := h9
        refine ⟨_, [("__class__", cc)], c, SC, ⟨oc, od, n10, n11, n14, osl, rfl, q⟩, k1, ?_, ?_⟩
        · split at k4
          · rename_i a1 a2 vs a3 hc
            split at k4
            · rename_i z tf hz
              exact ⟨_, _, _, _, z, tf, hc, hz, by rw [hfile]; exact k4⟩
            · cases k4
          · cases k4
        · split at k3
          · rename_i a1 a2 D a3 hc
            have e := beq_iff_eq.mp k3
            subst e
            exact ⟨cc, _, _, _, rfl, hc⟩
          · cases k3
      · cases h9
    | _ => cases h9
/-- an exception class's __init__ as the text has it -/
structure ExD where
  cls : Str
  fld : Str
  name : Str
  qual : Str
  params : Arguments
  body : List Stmt
  scope : Scope
def ExD.val (d : ExD) : FnC := some (d.name, d.qual, d.params, .stmts d.body, d.scope, mainGlobals, builtinsNs)
def ExD.ok (file : Str) (K : PySem.W.Frag) (d : ExD) : Bool := supB file K (He.ga K d.cls) (He.fAd K (d.cls, some "__init__")) d.fld
abbrev Fy := PySem.W.Frag → Bool
abbrev AlY := He.AlD × Bool × List FnC
def obsY (file : Str) (fa : List He.Fa) (fn : List He.DefD) (es : List ExD) (ys : List Fy) (K : PySem.W.Frag) : AlY := (He.obsD fa fn K, (ys.all fun y => y K) && es.all fun d => d.ok file K, es.map fun d => fnC K (d.cls, some "__init__"))
def valY (fn : List He.DefD) (es : List ExD) : AlY := (He.valD fn, true, es.map ExD.val)
def frY (g : Addr → Option Obj) (n : Nat) : PySem.W.Frag := He.frG g (cStatics :: He.asD g n)
def obsYG (n : Nat) (file : Str) (fa : List He.Fa) (fn : List He.DefD) (es : List ExD) (ys : List Fy) (g : Addr → Option Obj) : AlY := obsY file fa fn es ys (frY g n)
def SaysY (file : Str) (fa : List He.Fa) (fn : List He.DefD) (es : List ExD) (ys : List Fy) (K : PySem.W.Frag) : Prop := obsY file fa fn es ys K = valY fn es
def hookY (n : Nat) (file : Str) (fa : List He.Fa) (fn : List He.DefD) (es : List ExD) (ys : List Fy) : PySem.W.Hook where
  α := AlY
  obs := fun s => obsYG n file fa fn es ys s.heap.get?
  val := fun _ => valY fn es
  says := fun _ h => ∃ K : PySem.W.Frag, K.In h ∧ SaysY file fa fn es ys K
  of := fun _ _ e => ⟨_, He.frG_in, e⟩
  keeps := fun _ _ _ ⟨K, hK, c⟩ k => ⟨K, PySem.W.Frag.In.keeps hK k, c⟩
theorem obsYG_eq {n : Nat} {file : Str} {fa : List He.Fa} {fn : List He.DefD} {es : List ExD} {ys : List Fy} {g : Addr → Option Obj} {s : Shared} (h : ∀ a, g a = s.heap.get? a) : obsYG n file fa fn es ys g = (hookY n file fa fn es ys).obs s := by
  have e : g = s.heap.get? := funext h
  rw [e] <;> rfl
section
variable {file : Str} {fa : List He.Fa} {fn : List He.DefD} {es : List ExD} {ys : List Fy} {K : PySem.W.Frag}
theorem SaysY.d (h : SaysY file fa fn es ys K) : He.SaysD fa fn K := congrArg (fun z : AlY => z.1) h
theorem SaysY.y (h : SaysY file fa fn es ys K) (i : Nat) {y : Fy} (e : ys[i]? = some y) : y K = true := by
  have c : ((ys.all fun y => y K) && es.all fun d => d.ok file K) = true := congrArg (fun z : AlY => z.2.1) h
  rw [Bool.and_eq_true] at c
  exact List.all_eq_true.mp c.1 y (List.mem_of_getElem? e)
theorem SaysY.e (h : SaysY file fa fn es ys K) (i : Nat) {d : ExD} (e : es[i]? = some d) {P : Program} (hfile : P.main.file = file) (htop : (P.main.scope.names.lookup ("super" : Str)).isSome = false) :
    ∃ fd cl c, SupC P K (He.ga K d.cls) (He.fAd K (d.cls, some "__init__")) d.fld ∧ SupF P K (He.ga K d.cls) (He.fAd K (d.cls, some "__init__")) fd ⟨d.name, d.qual, d.params, d.body, d.scope, cl, c⟩ := by
  have c : ((ys.all fun y => y K) && es.all fun d => d.ok file K) = true := congrArg (fun z : AlY => z.2.1) h
  rw [Bool.and_eq_true] at c
  have c2 := List.all_eq_true.mp c.2 d (List.mem_of_getElem? e)
  have c3 : es.map (fun d => fnC K (d.cls, some "__init__")) = es.map ExD.val := congrArg (fun z : AlY => z.2.2) h
  have e2 : (es.map fun d => fnC K (d.cls, some "__init__"))[i]? = (es.map ExD.val)[i]? := by rw [c3]
  rw [List.getElem?_map, List.getElem?_map, e] at e2
  exact supB_ok c2 (Option.some.inj e2) hfile htop
end
/-- from the parts -/
theorem exS_of {P : Program} {w : World} {K : PySem.W.Frag} {mg : Str → Option Value} {base : Heap} {C fI : Addr} {f p : Str} {ok : At → Bool} {okV : V → Bool} {fd : FuncData} {F : NF} {e : Expr} {te : TE} (T : SupC P K C fI f) (TF : SupF P K C fI fd F) (Wd : SupW F p f e) (hmg : mg "super" = none)
    (he : ∀ (A : Around) (outer : List PySem.Env) (s0 : Shared) (H0 : Hp) (E0 : XK), PE (scx P w K mg base p F fI A outer s0 H0 E0) e te)
    (hte : ∀ (σ : L2.St) (H : Hp) (x : V), σ[1]? = some (some x) → okV x = true → te σ H fun v H1 => H1 = H ∧ [v].length = 1)
    (hb : ∀ (doc pm ctv : Value) (us : List Value), us.length = 2 → bindArgs (F.fd doc pm ctv) ⟨us, []⟩ = pure ((["self", p] : List Str).zip us)) (hok : ∀ x : At, ok x = true → okV x.v = true) : ExS P w K mg base C f ok := by
  obtain ⟨oc, od, doc, pm, ctv, osl, efd, lk⟩ := TF.ex
  refine ⟨fI, fd, p, okV, T, sup_ok T TF Wd hmg he hte, ?_, hok⟩
  subst efd
  exact Binds.all fun us hl => hb doc pm ctv us hl
end DL
namespace DL
open PySem L2 PyProof.Rows NdefX
/-! ### raise Refused(text), raise NoText(number): the two __init__s -/
def supBody (e : Expr) (p f : Str) (p0 p1 p2 p3 p4 q1 q2 q3 q4 : Pos) : List Stmt := [.Expr (.Call (.Attribute (.Call (.Name "super" p0) [] [] p1) "__init__" p2) [e] [] p3) p4, .Assign [.Attribute (.Name "self" q1) f q2] (.Name p q3) q4]
def argS (t p : Str) (j : Nat) (r1 r2 r3 : Pos) : Expr := .BinOp (.Constant (.str t) j r1) .Add (.Name p r2) r3
def sup1 (p f : Str) : List Stmt → Bool
  | [.Expr (.Call (.Attribute (.Call (.Name a0 _) [] [] _) a1 ap) [.BinOp (.Constant (.str t) _ _) .Add (.Name a2 _) _] [] cp) _, .Assign [.Attribute (.Name a3 _) a4 _] (.Name a5 _) _] => a0 == "super" && (a1 == "__init__" && (a2 == p && (a3 == "self" && (a4 == f && (a5 == p && (ap.endLine == cp.line && decide (t.length ≤ 1000)))))))
  | _ => false
def sup2 (p f : Str) : List Stmt → Bool
  | [.Expr (.Call (.Attribute (.Call (.Name a0 _) [] [] _) a1 ap) [.BinOp (.Constant (.str t) _ _) .Add (.Call (.Name a6 _) [.Name a2 _] [] _) _] [] cp) _, .Assign [.Attribute (.Name a3 _) a4 _] (.Name a5 _) _] => a0 == "super" && (a1 == "__init__" && (a2 == p && (a3 == "self" && (a4 == f && (a5 == p && (a6 == "str" && (ap.endLine == cp.line && decide (t.length ≤ 1000))))))))
  | _ => false
theorem sup1_ok {p f : Str} {b : List Stmt} (h : sup1 p f b = true) : ∃ t j r1 r2 r3 p0 p1 p2 p3 p4 q1 q2 q3 q4, b = supBody (.BinOp (.Constant (.str t) j r1) .Add (.Name p r2) r3) p f p0 p1 p2 p3 p4 q1 q2 q3 q4 ∧ (p2.endLine == p3.line) = true ∧ t.length ≤ 1000 := by
  unfold sup1 at h
  split at h
  · simp only [Bool.and_eq_true, decide_eq_true_eq] at h
    obtain ⟨h1, h2, h3, h4, h5, h6, h7, h8⟩ := h
    have h1 := beq_iff_eq.mp h1
    have h2 := beq_iff_eq.mp h2
    have h3 := beq_iff_eq.mp h3
    have h4 := beq_iff_eq.mp h4
    have h5 := beq_iff_eq.mp h5
    have h6 := beq_iff_eq.mp h6
    subst h1 h2 h3 h4 h5 h6
    exact ⟨_, _, _, _, _, _, _, _, _, _, _, _, _, _, rfl, h7, h8⟩
  · cases h
theorem sup2_ok {p f : Str} {b : List Stmt} (h : sup2 p f b = true) : ∃ t j r1 r2 r3 r4 r5 p0 p1 p2 p3 p4 q1 q2 q3 q4, b = supBody (.BinOp (.Constant (.str t) j r1) .Add (.Call (.Name "str" r4) [.Name p r2] [] r5) r3) p f p0 p1 p2 p3 p4 q1 q2 q3 q4 ∧ (p2.endLine == p3.line) = true ∧ t.length ≤ 1000 := by
  unfold sup2 at h
  split at h
  · simp only [Bool.and_eq_true, decide_eq_true_eq] at h
    obtain ⟨h1, h2, h3, h4, h5, h6, h9, h7, h8⟩ := h
    have h1 := beq_iff_eq.mp h1
    have h2 := beq_iff_eq.mp h2
    have h3 := beq_iff_eq.mp h3
    have h4 := beq_iff_eq.mp h4
    have h5 := beq_iff_eq.mp h5
    have h6 := beq_iff_eq.mp h6
    have h9 := beq_iff_eq.mp h9
    subst h1 h2 h3 h4 h5 h6 h9
    exact ⟨_, _, _, _, _, _, _, _, _, _, _, _, _, _, _, _, rfl, h7, h8⟩
  · cases h
def okStr : At → Bool
  | .str s => decide (s.length ≤ 1000)
  | _ => false
def okStrV : V → Bool
  | .str s => decide (s.length ≤ 1000)
  | _ => false
def okInt : At → Bool
  | .int n => decide (0 ≤ n ∧ n < 1000000)
  | _ => false
def okIntV : V → Bool
  | .int n => decide (0 ≤ n ∧ n < 1000000)
  | _ => false
theorem sup_ev {o : Expr} {e : Expr} {env : PySem.Env} {p2 p3 : Pos} (hq : (p2.endLine == p3.line) = true) (h1 : (methodCallForm 1 (backTo p3 (starEach [e] env)) []) = true) (h2 : backToKw p3 (keywordEach [] env) = []) : ∃ pl : Sem Bool, eval (.Call (.Attribute o "__init__" p2) [e] [] p3) env = (do
      let ov ← attributeBase o "__init__" env (eval o env)
      standAt p2.atName
      let (f, first) ← holding [ov] (getMethod ov "__init__" pl)
      callWith p3 f first (backTo p3 (starEach [e] env)) []) := by
  refine ⟨(do return (← importBound o env).getD true), ?_⟩
  have e0 : eval (.Call (.Attribute o "__init__" p2) [e] [] p3) env = (do
    let ov ← attributeBase o "__init__" env (eval o env)
    standAt p2.atName
    methodCall o "__init__" p2 p3 env ov 1 (backTo p3 (starEach [e] env)) (backToKw p3 (keywordEach [] env))) := rfl
  rw [e0, h2]
  unfold methodCall calleeOf methodCallPos
  rw [h1, hq]
  simp
theorem supW_of {F : NF} {p f : Str} {e : Expr} {p0 p1 p2 p3 p4 q1 q2 q3 q4 : Pos} (hsc : nscB ["self", p, "__class__"] ["self", p] ["__class__"] F.scope = true) (hself : (F.params.posonlyargs ++ F.params.args).head?.map (·.arg) = some "self") (hsu : F.scope.names.lookup ("super" : Str) = some .globalImplicit)
    (hd : (p == ("__debug__" : Str)) = false ∧ (p == ("__classdict__" : Str)) = false) (hb : F.body = supBody e p f p0 p1 p2 p3 p4 q1 q2 q3 q4) (st : ∀ fI L : Addr, starEach [e] (envF F fI L) = (false, eval e (envF F fI L)) :: starEach [] (envF F fI L))
    (hl : (p2.endLine == p3.line) = true) (ev : ∀ fI L : Addr, (p2.endLine == p3.line) = true → ∃ pl : Sem Bool, eval (.Call (.Attribute (.Call (.Name "super" p0) [] [] p1) "__init__" p2) [e] [] p3) (envF F fI L) = (do
      let ov ← attributeBase (.Call (.Name "super" p0) [] [] p1) "__init__" (envF F fI L) (eval (.Call (.Name "super" p0) [] [] p1) (envF F fI L))
      standAt p2.atName
      let (f, first) ← holding [ov] (getMethod ov "__init__" pl)
      callWith p3 f first (backTo p3 (starEach [e] (envF F fI L))) [])) : SupW F p f e where
  sc := nscope_by hsc
  self_ := hself
  su := hsu
  body := ⟨p0, p1, p2, p3, p4, q1, q2, q3, q4, hb, fun fI L => ev fI L hl⟩
  dbg := hd
  st := st
  sw := fun fI L p0 p1 p2 p3 p4 => by rfl
  sw2 := fun fI L q1 q2 q3 q4 => by rfl
section
variable {P : Program} {w : World} {K : PySem.W.Frag} {mg : Str → Option Value} {base : Heap} {C fI : Addr} {f p : Str} {fd : FuncData} {F : NF}
theorem exS_str (T : SupC P K C fI f) (TF : SupF P K C fI fd F) (hmg : mg "super" = none) (hbody : sup1 p f F.body = true) (hsc : nscB ["self", p, "__class__"] ["self", p] ["__class__"] F.scope = true) (hself : (F.params.posonlyargs ++ F.params.args).head?.map (·.arg) = some "self") (hsu : F.scope.names.lookup ("super" : Str) = some .globalImplicit)
    (hd : (p == ("__debug__" : Str)) = false ∧ (p == ("__classdict__" : Str)) = false)
    (hb : ∀ (doc pm ctv : Value) (us : List Value), us.length = 2 → bindArgs (F.fd doc pm ctv) ⟨us, []⟩ = pure ((["self", p] : List Str).zip us)) : ExS P w K mg base C f okStr := by
  obtain ⟨t, j, r1, r2, r3, p0, p1, p2, p3, p4, q1, q2, q3, q4, hbd, hln, hl⟩ := sup1_ok hbody
  have Wd := supW_of hsc hself hsu hd hbd (fun fI L => by rfl) hln (fun fI L hq => sup_ev hq rfl rfl)
  refine exS_of (okV := okStrV) T TF Wd hmg (fun A outer s0 H0 E0 => pe_op op_add_str pe_str (pe_var (i := 1) rfl (.inl (Wd.sc.par p (by simp))) hd.1 hd.2)) (fun σ H x hσ hx => ?_) hb ?_
  · refine ⟨x, hσ, ?_⟩
    unfold okStrV at hx
    split at hx
    · rename_i s
      have hx := of_decide_eq_true hx
      exact ⟨t, s, rfl, rfl, by rw [sizeLine_eq]; omega, rfl, rfl⟩
    · cases hx
  · intro x hx
    cases x <;> first | exact hx | cases hx
end
end DL
namespace DL
open PySem L2 PyProof.Rows
/-! ### isinstance(x, C), C an own class, x any value of a built-in kind or of C -/
structure KitN (K : PySem.W.Frag) (C : Addr) : Prop where
  kit : ∀ t ∈ tyAll, PySem.W.kitOne K (.type t) (.ref C) = some false
  nf : ∀ t ∈ tyAll, PySem.W.notFirst K C (.type t) = true
def kitNB (K : PySem.W.Frag) (C : Addr) : Bool := tyAll.all fun t => decide (PySem.W.kitOne K (.type t) (.ref C) = some false) && PySem.W.notFirst K C (.type t)
theorem kitNB_ok {K : PySem.W.Frag} {C : Addr} (h : kitNB K C = true) : KitN K C := by
  unfold kitNB at h
  rw [List.all_eq_true] at h
  refine ⟨fun t ht => ?_, fun t ht => ?_⟩
  · have := h t ht
    rw [Bool.and_eq_true] at this
    exact of_decide_eq_true this.1
  · have := h t ht
    rw [Bool.and_eq_true] at this
    exact this.2
def gIsiA (C : Str) : D → Option D := fun d => match d with
  | .n (.ins C' _) _ _ => if C' = C then some (.bl true) else none
  | _ => match tyN d with
    | some _ => some (.bl false)
    | none => none
theorem vu_isiA {K : PySem.W.Frag} {cA : Str → Addr} {C : Str} (h : ClsX K (cA C)) (hn : KitN K (cA C)) : VU K cA (fun v H Q => rIsi K [v, .ref (cA C)] H Q) (gIsiA C) := by
  refine ⟨@fun d1 d v1 H Z f1 Q h1 w hg q => ?_⟩
  unfold gIsiA at hg
  split at hg
  · rename_i C' fs o xs
    exact (vu_isiC h).run h1 w (by unfold gIsiC; exact hg) q
  · split at hg
    · rename_i t e
      cases hg
      obtain ⟨ht, ty⟩ := tyN_ok e h1
      exact ⟨_, _, _, .ref (cA C), false, rfl, .own _, ty, hn.kit t ht, q _ H Z [] ⟨rfl, rfl⟩ w Fr.refl⟩
    · cases hg
section
variable {X : Cx} {cA : Str → Addr} {W : WX} {fa fb : Env → Out D} {a b : Expr} {pos : Pos}
theorem de_isiA {x C : Str} {p q : Pos} (h : ClsX X.K (cA C)) (hn : KitN X.K (cA C)) (hg : Gl X "isinstance") (hm : X.mg "isinstance" = none) (hg2 : Gl X x) (hm2 : X.mg x = some (.ref (cA C))) (ha : DP X cA W fa a) (hd2 : (x == ("__debug__" : Str)) = false := by kernel_rfl)
    (hs1 : starEach [a, .Name x q] X.env = (false, eval a X.env) :: starEach [.Name x q] X.env := by kernel_rfl) (hs2 : starEach [.Name x q] X.env = (false, eval (.Name x q) X.env) :: starEach [] X.env := by kernel_rfl) (hpl : (backTo pos (starEach [.Name x q] X.env)).any (·.1) = false := by kernel_rfl) :
    DE X cA W (dU (gIsiA C) fa) (.Call (.Name "isinstance" p) [a, .Name x q] [] pos) :=
  PE.imp (pe_callB call_isi hg hm PyProof.Rows.boot_isinstance (pa_cons ha (pa_cons (pe_glob (v := .ref (cA C)) hg2 hm2 rfl hd2) pa_nil hs2) hs1) (by decide) (by decide) hs1 hpl) (te_un (vu_isiA h hn))
end
/-! ### an own == whose right side is of a built-in kind -/
section
variable {X : Cx} {cA : Str → Addr} {C : Str} {f : Addr} {fd : FuncData} {ps : List Str} {k : Nat} {kio : Option Nat} {F : List D → FR}
theorem run_ownT {A : Around} {pins : List (Addr × Obj)} {σ : L2.St} {H : Hp} {s : Shared} {a : Addr} {y : V} {u : Value} {Q : VK} (Fo : FnOk X.prog X.w X.K X.mg X.base (L2.CX X.prog X.w) k f fd ps (spF X.K cA 2 kio F)) (hr : Room k A) (hfr : A.frames = X.A.frames) (hb : Binds X.K fd ps []) (I : Inv X pins σ H s) (ry : RelV y u)
    (hsp : spF X.K cA 2 kio F [.ref a, y] H (fun v H' => ∃ t, v = .bl t ∧ Q v H') E0) :
    wpAny (model X.prog X.w) A (call (.ref f) [.ref a, u]) (fun v s' => ∃ t H', v = .bool t ∧ Inv X pins σ H' s' ∧ Q (.bl t) H') X.xe s := by
  have e0 : Env0 X.prog X.w X.K X.mg X.base A X.stack s H := by
    have e := I.env0
    exact ⟨by rw [hfr]; exact e.frames, e.mod, e.bs, e.bsz, e.funs, e.frf, e.hok, e.bare⟩
  have hl := Fo.len _ _ _ _ hsp
  have r2 : Vals [V.ref a, y] [Value.ref a, u] := .cons rfl (.cons ry .nil)
  refine wpAny_call (codeAny_mono (Fo.run A X.stack s H ⟨[.ref a, u], []⟩ [.ref a, u] [.ref a, y] _ E0 hr e0 (by
    have := hb s [.ref a, u] I.kIn (by simpa using hl)
    simpa using this) r2 hsp) fun r s' hq => ?_)
  cases r with
  | error e => exact passL pins σ H s e s' I hq
  | ok fl =>
    cases fl with
    | ret w =>
      obtain ⟨z, H', I', rz, t, ez, q⟩ := I.after hq
      subst ez
      cases rz
      exact ⟨t, H', rfl, I', q⟩
    | next => exact False.elim hq
    | brk => exact False.elim hq
    | cont => exact False.elim hq
def rOwnT (K : PySem.W.Frag) (cA : Str → Addr) (C : Str) (kio : Option Nat) (F : List D → FR) : R2 := fun x y H Q => ∃ a dx fs t, x = .ref a ∧ t ∈ tyAll ∧ TyX K H y (.type t) ∧ H a = some (.ins (cA C) dx fs) ∧ spF K cA 2 kio F [x, y] H (fun v H' => ∃ t, v = .bl t ∧ Q v H') E0
theorem op_ownT (Fo : OkC X.prog X.w X.K X.mg X.base f ps k (spF X.K cA 2 kio F)) (hr : Room k X.A) (hm : Meth X.K (cA C) "__eq__" f) (hn : KitN X.K (cA C)) : OpR X (compareOp .Eq) (rOwnT X.K cA C kio F) := by
  intro pins s σ H x y v u Q I rx ry h
  obtain ⟨fd, Fo, hb⟩ := Fo.ex
  obtain ⟨a, dx, fs, t, rfl, ht, ty, ha, hsp⟩ := h
  cases rx
  obtain ⟨mA, J, _⟩ := ins_get I.hok ha
  obtain ⟨od, J, _⟩ := J.look
  obtain ⟨P, kx, hP, _⟩ := kit_of I ry ty
  obtain ⟨m, hF⟩ := I.fr
  show wpAny (model X.prog X.w) X.A (richCompare .Eq (.ref a) u) (EP X pins σ Q) X.xe s
  refine PySem.W.cmp_K (op := .Eq) (tb := .type t) hr.units0 hF I.ok.mod.kin J (kx.ty _ _ I.kIn hP) (hn.nf t ht) hm.at_ hm.fn ?_
  refine wpAny_mono (run_ownT (Q := fun v H' => Q v H') Fo hr rfl hb I ry ?_) (fun v s' hv => ?_) fun _ _ x => x
  · obtain ⟨h1, ds, Z, L, r, w, p⟩ := hsp
    refine ⟨h1, ds, Z, L, r, w, ?_⟩
    cases hF2 : F ds with
    | rt d io => rw [hF2] at p; exact fun v H' Z' fp g a1 a2 a3 a4 => let ⟨t, e, q⟩ := p v H' Z' fp g a1 a2 a3 a4; ⟨t, e, by subst e; exact q⟩
    | ex e io => rw [hF2] at p; exact p
    | st => rw [hF2] at p; exact p
  · obtain ⟨t, H', rfl, I', q⟩ := hv
    exact ⟨.bl t, H', I', rfl, q⟩
def gOwnT (C : Str) (F : List D → FR) (d1 d2 : D) : Option D := match d1, tyN d2 with
  | .n (.ins C1 fs1) false xs1, some _ => if C1 = C ∧ isFL xs1 = true ∧ isF d2 = true then (match F [.n (.ins C1 fs1) false xs1, d2] with
    | .rt (.a (.bl t)) _ => some (.bl t)
    | _ => none) else none
  | _, _ => none
theorem vop_ownT {K : PySem.W.Frag} : VOp2 K cA (rOwnT K cA C kio F) (gOwnT C F) := by
  refine ⟨@fun d1 d2 d v1 v2 H Z f1 f2 Q h1 h2 w hg q => ?_⟩
  unfold gOwnT at hg
  split at hg
  · rename_i C1 fs1 xs1 t ht
    split at hg
    · rename_i hc
      obtain ⟨c1, e1, e2⟩ := hc
      subst c1
      split at hg
      · rename_i b io hF
        cases hg
        have z1 := repD_isF _ h1 (by simp [isF, e1])
        have z2 := repD_isF _ h2 e2
        subst z1 z2
        obtain ⟨p1, vs1, g1, dx1, rfl, a1, _⟩ := rep_ins h1
        obtain ⟨ht1, ht2⟩ := tyN_ok ht h2
        have hr : RepL K cA H Z [.n (.ins C1 fs1) false xs1, d2] [.ref p1, v2] [] := ⟨.ref p1, [v2], [], [], rfl, h1, ⟨v2, [], [], [], rfl, h2, ⟨rfl, rfl⟩, rfl⟩, rfl⟩
        refine ⟨p1, dx1, _, t, rfl, ht1, ht2, a1, rfl, _, Z, [], hr, w, ?_⟩
        rw [hF]
        intro v H' Z' fp g hi hd w' F'
        obtain ⟨e3, e4⟩ := hd
        subst e3 e4
        refine ⟨b, rfl, q _ H' Z' [] ⟨rfl, rfl⟩ (wf0 w') (F'.less fun a m => nomatch m)⟩
      · cases hg
    · cases hg
  · cases hg
/-- == of an instance and any value; of two values that are no instances -/
theorem cr_ownA (hu : X.A.units + 64 < cLine) (Fo : OkC X.prog X.w X.K X.mg X.base f ps k (spF X.K cA 2 kio F)) (hr : Room k X.A) (hm : Meth X.K (cA C) "__eq__" f) (hn : KitN X.K (cA C)) : CR2 X cA .Eq (gOr (gOwn C F false) (gOr (gOwnT C F) gEq)) :=
  ⟨_, (op_own (C := C) Fo hr hm).or ((op_ownT (C := C) Fo hr hm hn).or (op_eq.or (op_eqD hu))), vop_or vop_own (vop_or vop_ownT (vop_or vop_eqA vop_eqP)), by decide, by decide⟩
end
end DL
namespace DL
open PySem L2 PyProof.Rows
/-! ### len(x), x an own instance or a built-in value -/
section
variable {X : Cx} {cA : Str → Addr} {W : WX} {C : Str} {f : Addr} {fd : FuncData} {ps : List Str} {k : Nat} {kio : Option Nat} {F : List D → FR} {fa fb : Env → Out D} {a b : Expr} {pos apos : Pos}
theorem run_one {A : Around} {pins : List (Addr × Obj)} {σ : L2.St} {H : Hp} {s : Shared} {a : Addr} {Q : VK} (Fo : FnOk X.prog X.w X.K X.mg X.base (L2.CX X.prog X.w) k f fd ps (spF X.K cA 1 kio F)) (hr : Room k A) (hfr : A.frames = X.A.frames) (hb : Binds X.K fd ps []) (I : Inv X pins σ H s)
    (hsp : spF X.K cA 1 kio F [.ref a] H Q E0) : wpAny (model X.prog X.w) A (call (.ref f) [.ref a]) (EP X pins σ Q) X.xe s := by
  have e0 : Env0 X.prog X.w X.K X.mg X.base A X.stack s H := by
    have e := I.env0
    exact ⟨by rw [hfr]; exact e.frames, e.mod, e.bs, e.bsz, e.funs, e.frf, e.hok, e.bare⟩
  have hl := Fo.len _ _ _ _ hsp
  have r2 : Vals [V.ref a] [Value.ref a] := .cons rfl .nil
  refine wpAny_call (codeAny_mono (Fo.run A X.stack s H ⟨[.ref a], []⟩ [.ref a] [.ref a] _ E0 hr e0 (by
    have := hb s [.ref a] I.kIn (by simpa using hl)
    simpa using this) r2 hsp) fun r s' hq => ?_)
  cases r with
  | error e => exact passL pins σ H s e s' I hq
  | ok fl =>
    cases fl with
    | ret w => exact I.after hq
    | next => exact False.elim hq
    | brk => exact False.elim hq
    | cont => exact False.elim hq
def rLenO (K : PySem.W.Frag) (cA : Str → Addr) (C : Str) (kio : Option Nat) (F : List D → FR) : List V → Hp → VK → Prop := fun xs H Q => ∃ a dx fs, xs = [.ref a] ∧ H a = some (.ins (cA C) dx fs) ∧ spF K cA 1 kio F [.ref a] H (fun v H' => ∃ n : Int, v = .int n ∧ (0 ≤ n ∧ n < 2 ^ 63) ∧ Q v H') E0
theorem call_lenO (Fo : OkC X.prog X.w X.K X.mg X.base f ps k (spF X.K cA 1 kio F)) (hr : Room (k + 1) X.A) (hm : Meth X.K (cA C) "__len__" f) : CallR X (.builtin "len") (rLenO X.K cA C kio F) := by
  intro pins s σ H xs us Q I r h
  obtain ⟨fd, Fo, hb⟩ := Fo.ex
  obtain ⟨a, dx, fs, rfl, ha, hsp⟩ := h
  cases r with
  | cons rx rr =>
    cases rr
    cases rx
    obtain ⟨mA, J, _⟩ := ins_get I.hok ha
    obtain ⟨od, J, _⟩ := J.look
    obtain ⟨m, hF⟩ := I.fr
    refine PySem.W.len_K hF I.ok.mod.kin J hm.at_ hm.fn ?_
    refine wpAny_mono (run_one Fo hr.in1 rfl hb I hsp) (fun v s' hv => ?_) fun _ _ x => x
    obtain ⟨z, H', I', rz, n, ez, hn, q⟩ := hv
    subst ez
    obtain ⟨t, rfl⟩ := rz
    exact ⟨hn, .int n, H', I'.tok _, ⟨_, rfl⟩, q⟩
theorem callR_or {v : Value} {r r' : List V → Hp → VK → Prop} (h : CallR X v r) (h' : CallR X v r') : CallR X v (fun xs H Q => r xs H Q ∨ r' xs H Q) := fun pins s σ H xs us Q I rx q => q.elim (h pins s σ H xs us Q I rx) (h' pins s σ H xs us Q I rx)
def gLenO (C : Str) (F : List D → FR) : D → Option D
  | .n (.ins C1 fs1) false xs1 => if C1 = C ∧ isFL xs1 = true then (match F [.n (.ins C1 fs1) false xs1] with
    | .rt (.a (.int n)) _ => if 0 ≤ n ∧ n < 1000000 then some (.int n) else none
    | _ => none) else none
  | d => gLen d
theorem vu_lenO {K : PySem.W.Frag} : VU K cA (fun v H Q => rLenO K cA C kio F [v] H Q ∨ ∃ x n, [v] = [x] ∧ LenV K x H n ∧ Q (.int n) H) (gLenO C F) := by
  refine ⟨@fun d1 d v1 H Z f1 Q h1 w hg q => ?_⟩
  unfold gLenO at hg
  split at hg
  · rename_i C1 fs1 xs1
    split at hg
    · rename_i hc
      obtain ⟨c1, e1⟩ := hc
      subst c1
      split at hg
      · rename_i n io hF
        split at hg
        · rename_i hn
          cases hg
          have z1 := repD_isF _ h1 (by simp [isF, e1])
          subst z1
          obtain ⟨p1, vs1, g1, dx1, rfl, a1, _⟩ := rep_ins h1
          have hr : RepL K cA H Z [.n (.ins C1 fs1) false xs1] [.ref p1] [] := ⟨.ref p1, [], [], [], rfl, h1, ⟨rfl, rfl⟩, rfl⟩
          refine .inl ⟨p1, dx1, _, rfl, a1, rfl, _, Z, [], hr, w, ?_⟩
          rw [hF]
          intro v H' Z' fp g hi hd w' F'
          obtain ⟨e3, e4⟩ := hd
          subst e3 e4
          exact ⟨n, rfl, ⟨hn.1, by omega⟩, q _ H' Z' [] ⟨rfl, rfl⟩ (wf0 w') (F'.less fun a m => nomatch m)⟩
        · cases hg
      · cases hg
    · cases hg
  · exact .inr (vc_len.run h1 w hg q)
theorem de_lenO {p : Pos} (Fo : OkC X.prog X.w X.K X.mg X.base f ps k (spF X.K cA 1 kio F)) (hr : Room (k + 1) X.A) (hm : Meth X.K (cA C) "__len__" f) (hg : Gl X "len") (hmg : X.mg "len" = none) (ha : DP X cA W fa a)
    (hs : starEach [a] X.env = (false, eval a X.env) :: starEach [] X.env := by kernel_rfl) : DE X cA W (dU (gLenO C F) fa) (.Call (.Name "len" p) [a] [] pos) :=
  PE.imp (pe_callB (callR_or (call_lenO (C := C) Fo hr hm) call_len) hg hmg PySem.boot_len (pa_cons ha pa_nil hs) (by decide) (by decide) hs (by rfl)) (te_un vu_lenO)
/-! ### xs.index(x), xs a list -/
def firstEq (x : D) : List D → Option Nat
  | [] => none
  | y :: ys => if eqD y x = true then some 0 else (firstEq x ys).map (· + 1)
def gIndexL (l x : D) : Option D := match l with
  | .n .lst _ ys => if pD 60 x = true ∧ pDL 60 ys = true then (firstEq x ys).map fun j => D.int (j : Nat) else none
  | _ => none
theorem firstEq_ok {x : D} : ∀ {ys : List D} {j : Nat}, firstEq x ys = some j → (∃ y, ys[j]? = some y ∧ eqD y x = true) ∧ ∀ m y, m < j → ys[m]? = some y → eqD y x = false
  | [], j, h => by cases h
  | y :: ys, j, h => by
    unfold firstEq at h
    split at h
    · rename_i e
      cases h
      exact ⟨⟨y, rfl, e⟩, fun m y' hm => by omega⟩
    · rename_i e
      cases hq : firstEq x ys with
      | none => rw [hq] at h; cases h
      | some i =>
        rw [hq] at h
        cases h
        obtain ⟨⟨z, h1, h2⟩, h3⟩ := firstEq_ok hq
        refine ⟨⟨z, by simpa using h1, h2⟩, fun m y' hm hy => ?_⟩
        cases m with
        | zero =>
          simp at hy
          subst hy
          simpa using e
        | succ m => exact h3 m y' (Nat.lt_of_succ_lt_succ hm) (by simpa using hy)
theorem pyL_get : ∀ {ys : List D} {j : Nat}, (pyL ys)[j]? = (ys[j]?).map pyD
  | [], j => by simp [pyL]
  | y :: ys, 0 => by simp [pyL]
  | y :: ys, j + 1 => by simpa [pyL] using pyL_get (ys := ys) (j := j)
theorem pDL_get {n : Nat} : ∀ {ys : List D} {j : Nat} {y : D}, pDL n ys = true → ys[j]? = some y → pD n y = true
  | [], j, y, _, h => by simp at h
  | z :: ys, j, y, h, e => by
    have h : (pD n z && pDL n ys) = true := by simpa only [pDL] using h
    rw [Bool.and_eq_true] at h
    cases j with
    | zero => simp at e; subst e; exact h.1
    | succ j => exact pDL_get h.2 (by simpa using e)
def dIndexL (fa fb : Env → Out D) : Env → Out D := fun ρ => match fa ρ with
  | .ok (.n .lst o xs) ρ1 => (match fb ρ1 with
    | .ok d2 ρ2 => (match gIndexL (.n .lst o xs) d2 with
      | some d => .ok d ρ2
      | none => .st)
    | .ex e ρ2 => .ex e ρ2
    | .st => .st)
  | .ok _ _ => .st
  | .ex e ρ1 => .ex e ρ1
  | .st => .st
theorem te_index {K : PySem.W.Frag} : ∀ σ H Q, TEof K cA W (dIndexL fa fb) σ H Q → tBM K "list" (rIndexD K) (TEof K cA W fa) (tCons (TEof K cA W fb) tNil) σ H Q := by
  rintro σ H Q ⟨Z, L, ρ, r, w, p⟩
  refine ⟨Z, L, ρ, r, w, ?_⟩
  unfold dIndexL at p
  cases ha : fa ρ with
  | st => rw [ha] at p; exact p
  | ex e ρ' => rw [ha] at p; exact p
  | ok d1 ρ1 =>
    rw [ha] at p
    by_cases hd1 : ∃ o xs, d1 = .n .lst o xs
    · obtain ⟨o, xs, rfl⟩ := hd1
      dsimp only at p
      intro v1 H1 Z1 L1 f1 r1 w1 h1 F1
      refine ⟨?_, ?_⟩
      · obtain ⟨p0, vs0, g0, rfl, e0, _⟩ := rep_lst h1
        exact .inl ⟨rfl, _, SqL.of e0⟩
      · refine ⟨Z1, L1, ρ1, r1, w1.less (List.sublist_append_right _ _), ?_⟩
        cases hb : fb ρ1 with
        | st => rw [hb] at p; exact p
        | ex e ρ' =>
          rw [hb] at p
          exact exw p (F1.less fun x m => by simp [m])
        | ok d2 ρ2 =>
          rw [hb] at p
          intro v2 H2 Z2 L2 f2 r2 w2 h2 F2
          dsimp only at p
          cases hg : gIndexL (.n .lst o xs) d2 with
          | none => rw [hg] at p; exact p.elim
          | some d =>
            rw [hg] at p
            have h1' := repD_wait w1 h1 F2
            unfold gIndexL at hg
            dsimp only at hg
            split at hg
            · rename_i hp
              cases hfe : firstEq d2 xs with
              | none => rw [hfe] at hg; cases hg
              | some j =>
                rw [hfe] at hg
                cases hg
                obtain ⟨⟨y, hy1, hy2⟩, hno⟩ := firstEq_ok hfe
                obtain ⟨p0, vs0, g0, rfl, e0, rr0, _⟩ := rep_lst h1'
                have hyp := pDL_get hp.2 hy1
                refine ⟨p0, v2, pyD d2, pyL xs, j, pyD y, rfl, rfl, Dp.lst (SqL.of e0) (rep_dpL xs 60 hp.2 rr0), rep_dp d2 60 hp.1 h2, ?_, shaped_pD hp.1 (by decide), by rw [pyL_get, hy1]; rfl, ?_, ?_, ?_⟩
                · exact shaped_pD (d := .lst o xs) (n := 61) (by simpa [pD] using hp.2) (by decide)
                · rw [eqv_D y d2 60 60 hyp hp.1]; exact hy2
                · intro m z' hm hz'
                  rw [pyL_get] at hz'
                  cases hq : xs[m]? with
                  | none => rw [hq] at hz'; cases hz'
                  | some y' =>
                    rw [hq] at hz'
                    cases hz'
                    rw [eqv_D y' d2 60 60 (pDL_get hp.2 hq) hp.1]
                    exact hno m y' hm hq
                · exact p _ H2 Z2 L2 [] r2 (w2.less (List.sublist_append_right _ _)) ⟨rfl, rfl⟩ ((F1.less fun x m => by simp [m]).trans (F2.less fun x m => by
                  have m : x ∈ L2 := by simpa using m
                  simp [m]))
            · cases hg
    · exfalso
      cases d1 with
      | a x => exact p
      | n kk o xs => cases kk <;> first | exact p | exact hd1 ⟨_, _, rfl⟩
theorem de_indexL (hu : X.A.units + 65 < cLine) (ha : DE X cA W fa a) (hb : DE X cA W fb b) (hbase : attributeBase a "index" X.env (eval a X.env) = eval a X.env := by kernel_rfl)
    (hfew : ((backTo pos (starEach [b] X.env)).all (fun x => !x.1) && (backToKw pos (keywordEach [] X.env)).all (fun x => x.1.isSome)
      && decide ([b].length + ([] : List Keyword).length + (if ([] : List Keyword).isEmpty then 0 else 1) < 30)) = true := by kernel_rfl)
    (hline : (apos.endLine == pos.line) = true := by kernel_rfl) (hs : starEach [b] X.env = (false, eval b X.env) :: starEach [] X.env := by kernel_rfl) : DE X cA W (dIndexL fa fb) (.Call (.Attribute a "index" apos) [b] [] pos) :=
  PE.imp (pe_bm PySem.F.plainAttrs_list PySem.F.slot_list_index PySem.F.type_list_index (mt_indexD hu) ha (pa_cons hb pa_nil hs) hbase hfew hline hs rfl) te_index
end
/-! ### range(i, j, -1) -/
def dRngD (f g : Env → Out D) : Env → Out (List D) := fun ρ => match f ρ with
  | .ok (.a (.int i)) ρ1 => (match g ρ1 with
    | .ok (.a (.int j)) ρ2 => if (-1000000 ≤ i ∧ i ≤ 1000000) ∧ -1000000 ≤ j ∧ j ≤ 1000000 then .ok (intsC i (-1) (i - j).toNat) ρ2 else .st
    | .ok _ _ => .st
    | .ex e ρ2 => .ex e ρ2
    | .st => .st)
  | .ok _ _ => .st
  | .ex e ρ1 => .ex e ρ1
  | .st => .st
section
variable {X : Cx} {cA : Str → Addr} {W : WX} {f g : Env → Out D} {e e2 tg : Expr} {p p2 p3 pos : Pos}
theorem pe_neg1 {k : Nat} : PE X (.UnaryOp .USub (.Constant (.int 1) k p2) p3) (tC (.int (-1))) := PE.imp (pe_un un_neg pe_int) fun σ H Q h => ⟨1, rfl, h⟩
theorem di_rngD {k : Nat} (hg : Gl X "range") (hm : X.mg "range" = none) (he : DE X cA W f e) (he2 : DE X cA W g e2)
    (hs : starEach [e, e2, .UnaryOp .USub (.Constant (.int 1) k p2) p3] X.env = (false, eval e X.env) :: starEach [e2, .UnaryOp .USub (.Constant (.int 1) k p2) p3] X.env := by kernel_rfl)
    (hs2 : starEach [e2, .UnaryOp .USub (.Constant (.int 1) k p2) p3] X.env = (false, eval e2 X.env) :: starEach [.UnaryOp .USub (.Constant (.int 1) k p2) p3] X.env := by kernel_rfl)
    (hs3 : starEach [.UnaryOp .USub (.Constant (.int 1) k p2) p3] X.env = (false, eval (.UnaryOp .USub (.Constant (.int 1) k p2) p3) X.env) :: starEach [] X.env := by kernel_rfl)
    (hpl : (backTo pos (starEach [e2, .UnaryOp .USub (.Constant (.int 1) k p2) p3] X.env)).any (·.1) = false := by kernel_rfl) :
    DI X cA W (dRngD f g) tg (.Call (.Name "range" p) [e, e2, .UnaryOp .USub (.Constant (.int 1) k p2) p3] [] pos) :=
  PI.imp (pi_range3 hg hm (pa_cons he (pa_cons he2 (pa_cons pe_neg1 pa_nil hs3) hs2) hs) hs hpl) fun σ H R ⟨Z, L, ρ, r, w, q⟩ => by
    refine post_int r w ?_
    unfold dRngD at q
    cases hf : f ρ with
    | st => rw [hf] at q; exact q
    | ex e ρ1 => rw [hf] at q; exact q
    | ok d ρ1 =>
      rw [hf] at q
      cases d with
      | n k o xs => exact q.elim
      | a x =>
        cases x with
        | non => exact q.elim
        | bl b => exact q.elim
        | str s => exact q.elim
        | int i =>
          dsimp only at q
          intro H1 Z1 L1 r1 w1 F1
          refine post_int r1 w1 ?_
          cases hg : g ρ1 with
          | st => rw [hg] at q; exact q
          | ex e ρ2 => rw [hg] at q; exact exw q F1
          | ok d ρ2 =>
            rw [hg] at q
            cases d with
            | n k o xs => exact q.elim
            | a x =>
              cases x with
              | non => exact q.elim
              | bl b => exact q.elim
              | str s => exact q.elim
              | int j =>
                dsimp only at q
                split at q
                · rename_i hi
                  intro H2 Z2 L2 r2 w2 F2
                  exact ⟨i, j, -1, (i - j).toNat, rfl, RgC.neg (by omega) (by omega) (by omega) (by omega), q _ H2 Z2 L2 r2 w2 (F1.trans F2) it_rngC⟩
                · exact q.elim
end
end DL
namespace DL
open PySem PySem.Spec PySem.W PyProof.Rows L2
/-! ### t[::-1], a list or a tuple -/
section
variable {prog : Program} {w : World} {A : Around} {E : Value → Shared → Prop} {s : Shared}
theorem adjust_rev (n : Nat) : Builtin.Slice.sliceAdjust none none (-1) (n : Int) = ((n : Int) - 1, -1) := by
  unfold Builtin.Slice.sliceAdjust
  rfl
theorem places_rev (n : Nat) : Builtin.Slice.slicePlaces ((n : Int) - 1) (-1) (-1) = n := by
  unfold Builtin.Slice.slicePlaces
  have h1 : ¬ ((-1 : Int) > 0) := by omega
  simp only [h1, if_false]
  first
  | omega
  | (split <;> omega)
  | (simp; split <;> omega)
theorem applied_rev {sl : Addr} {vl vu vs : Value} {n : Nat} {Q : Int × Int × Nat → Shared → Prop} (hs : s.heap.IsSliceOf sl vl vu vs) (pl : IsPart vl none) (pu : IsPart vu none) (ps : IsPart vs (some (-1)))
    (h : Q ((n : Int) - 1, -1, n) s) : wpAny (model prog w) A (Builtin.Slice.sliceApplied (.ref sl) (pure (n : Int))) Q E s := by
  obtain ⟨os, hos, hcs, hds⟩ := id hs
  unfold Builtin.Slice.sliceApplied Builtin.Slice.sliceFields
  refine wpAny_bind (wpAny_bind (wpAny_field hos hds (x := vl) rfl (wpAny_bind (wpAny_field hos hds (x := vu) rfl (wpAny_bind (wpAny_field hos hds (x := vs) rfl (wpAny_pure ?_)))))))
  refine wpAny_bind (HT.slicePart_ ps ?_)
  show wpAny _ _ (if ((-1 : Int) == 0) = true then _ else _) _ _ s
  rw [if_neg (by decide)]
  refine wpAny_bind (HT.slicePart_ pl (wpAny_bind (HT.slicePart_ pu (wpAny_bind (wpAny_pure ?_)))))
  show wpAny _ _ (match Builtin.Slice.sliceAdjust none none (-1) (n : Int) with | (lo, hi) => pure (lo, (-1 : Int), Builtin.Slice.slicePlaces lo hi (-1))) _ _ s
  rw [adjust_rev n]
  show wpAny _ _ (pure ((n : Int) - 1, (-1 : Int), Builtin.Slice.slicePlaces ((n : Int) - 1) (-1) (-1))) _ _ s
  rw [places_rev]
  exact wpAny_pure h
theorem fm_congr {α β : Type} {f g : α → Option β} : ∀ {l : List α}, (∀ x ∈ l, f x = g x) → l.filterMap f = l.filterMap g
  | [], _ => rfl
  | x :: l, h => by
    rw [List.filterMap_cons, List.filterMap_cons, h x (by simp), fm_congr (l := l) fun y hy => h y (List.mem_cons_of_mem _ hy)]
theorem pick_rev (xs : Array Value) : ((List.range xs.size).filterMap fun (m : Nat) => xs[(((xs.size : Int) - 1) + (m : Int) * -1).toNat]?).toArray = xs.toList.reverse.toArray := by
  have e : (List.range xs.size).filterMap (fun (m : Nat) => xs[(((xs.size : Int) - 1) + (m : Int) * -1).toNat]?) = ((List.range xs.size).map fun k => xs.size - 1 - k).filterMap (xs[·]?) := by
    rw [List.filterMap_map]
    apply fm_congr
    intro m hm
    have := List.mem_range.mp hm
    show xs[_]? = xs[xs.size - 1 - m]?
    congr 1
    omega
  rw [e, krv_range, List.filterMap_reverse, krv_all]
theorem getItem_tuple_rev {t sl : Addr} {items : Array Value} {vl vu vs : Value} {Q : Value → Shared → Prop} (ht : IsTup s.heap t items) (hs : s.heap.IsSliceOf sl vl vu vs) (pl : IsPart vl none) (pu : IsPart vu none) (ps : IsPart vs (some (-1)))
    (h : Q (.ref s.heap.objs.size) { s with heap := s.heap.push { cls := .type "tuple", data := .seq items.toList.reverse.toArray } })
    (hsz : items.size ≤ sizeLine) : wpAny (model prog w) A (getItem (.ref t) (.ref sl)) Q E s := by
  have htake : sizeOk (.seq items.toList.reverse.toArray) := by
    show items.toList.reverse.toArray.size ≤ sizeLine
    rw [List.size_toArray, List.length_reverse, Array.length_toList]
    exact hsz
  obtain ⟨os, hos, hcs, hds⟩ := id hs
  have hTs : s.TypeIs (.ref sl) "slice" := ⟨os, hos, hcs⟩
  unfold getItem
  try with_reducible refine wpAny_holding ?_
  first | refine wpAny_bind (wpAny_pure ?_) | skip
  refine wpAny_bind (wpAny_sequenceKey ht.typeIs (by decide) ?_)
  refine wpAny_bind (wpAny_callSpecial?_slot (name := Str.ofString "__getitem__") ht.typeIs PyProof.Rows.slot_tuple_getitem
    (wpAny_call_entry PyProof.Rows.slot_tuple_getitem ht.typeIs PyProof.Rows.entry_tuple_getitem ?_ (PyProof.Rows.args_tuple_getitem _ _)))
  show wpAny _ _ (Builtin.Tuple.tupleItemsOf (.ref t) >>= _) _ _ s
  refine wpAny_bind (PyProof.Rows.tupleItemsOf_ ht ?_)
  refine wpAny_bind (wpAny_typeOf hTs ?_)
  rw [if_pos (by decide)]
  refine wpAny_bind (applied_rev hs pl pu ps ?_)
  have hno : ¬ ((((items.size : Int) - 1 == 0) && (-1 : Int) == 1 && (items.size == items.size)) = true) := by
    intro q
    rw [Bool.and_eq_true, Bool.and_eq_true] at q
    have := q.1.2
    revert this
    decide
  show wpAny _ _ (if (((items.size : Int) - 1 == 0) && (-1 : Int) == 1 && (items.size == items.size)) = true then _ else _) _ _ s
  rw [if_neg hno, pick_rev]
  first
    | exact wpAny_bind (m := Builtin.Tuple.tupleExact _) (wpAny_newObj_type (wpAny_pure ⟨_, rfl, wpAny_pure h⟩) htake)
    | exact wpAny_bind (m := Builtin.Tuple.tupleExact _) (wpAny_newObj_type (wpAny_bind (wpAny_pure (wpAny_pure ⟨_, rfl, wpAny_pure h⟩))) htake)
    | exact wpAny_bind (wpAny_bind (m := Builtin.Tuple.tupleExact _) (wpAny_newObj_type (wpAny_pure (wpAny_pure ⟨_, rfl, wpAny_pure h⟩)) htake))
    | exact wpAny_bind (wpAny_bind (m := Builtin.Tuple.tupleExact _) (wpAny_newObj_type (wpAny_pure ⟨_, rfl, wpAny_pure h⟩) htake))
end
def tRevA (K : PySem.W.Frag) (te : TE) : TE := fun σ H Q => te σ H fun x H1 => ∃ a xs, x = .ref a ∧ ((SqL K H1 a xs ∧ ∀ p, H1 p = none → Q (.ref p) (upd H1 p (.lst xs.reverse))) ∨ (SqT K H1 a xs ∧ ∀ p, H1 p = none → Q (.ref p) (upd H1 p (.tup xs.reverse))))
theorem pe_revA {X : Cx} {e : Expr} {te : TE} {k : Nat} {p1 p2 p3 pos : Pos} (he : PE X e te) : PE X (.Subscript e (.Slice none none (some (.UnaryOp .USub (.Constant (.int 1) k p1) p2)) p3) pos) (tRevA X.K te) := by
  refine ⟨fun pins s σ H Q I h => ?_⟩
  refine Subscript_ (thn (he.run pins s σ H _ I h) fun v s1 ⟨x, H1, I1, r1, q1⟩ => ?_)
  obtain ⟨a, xs, ex, hq⟩ := q1
  subst ex
  cases r1
  have hst : PO X (some (.UnaryOp .USub (.Constant (.int 1) k p1) p2)) (tPart (tUn (rU fun i => .int (-i)) (tC (.int 1)))) := po_some (pe_un un_neg pe_int)
  refine wpAny_Slice (thn (po_none.run pins s1 σ H1 (fun o H2 => o = none ∧ H2 = H1) I1 ⟨rfl, rfl⟩) fun vl s2 ⟨l, H2, I2, pl, el, e2⟩ => ?_)
  subst el e2
  refine thn (po_none.run pins s2 σ H2 (fun o H3 => o = none ∧ H3 = H2) I2 ⟨rfl, rfl⟩) fun vu s3 ⟨u, H3, I3, pu, eu, e3⟩ => ?_
  subst eu e3
  refine thn (hst.run pins s3 σ H3 (fun o H4 => o = some (-1) ∧ H4 = H3) I3 ⟨1, rfl, -1, rfl, rfl, rfl⟩) fun vs s4 ⟨o, H4, I4, ps, eo, e4⟩ => ?_
  subst eo e4
  have I5 : Inv X pins σ H4 { s4 with heap := s4.heap.push { cls := .type "slice", data := .fields #[vl, vu, vs] } } := I4.kept (t' := s4.toks) fun b ob q => Heap.get?_push_of_some _ q
  show wpAny (model X.prog X.w) X.A (subscriptTail e (.Slice none none (some (.UnaryOp .USub (.Constant (.int 1) k p1) p2)) p3) (.ref a) (.ref s4.heap.objs.size)) (EP X pins σ Q) X.xe { s4 with heap := s4.heap.push { cls := .type "slice", data := .fields #[vl, vu, vs] } }
  rcases hq with ⟨hx, q⟩ | ⟨hx, q⟩
  · obtain ⟨its, r, ht, hz⟩ := I5.list hx
    have hlen := r.length
    refine tail_any (ops := [.ref a, .ref s4.heap.objs.size]) ht.isList.typeIs (PySem.slot_list_getitem.lookup) ?_ (by with_unfolding_all rfl)
    refine wpAny_getItem_list_slice ht.isList (Heap.IsSliceOf.new _ vl vu vs) pl pu ps (by decide) ?_ (by rw [List.size_toArray]; omega)
    rw [PySem.W.krv_pick]
    refine ⟨.ref _, _, I5.laid (t' := s4.toks) (o := .lst xs.reverse) (fun b ob q => Heap.get?_push_of_some _ q) (Nat.le_refl _) ?_, rfl, q _ (I5.hok.fresh (Nat.le_refl _))⟩
    exact ⟨by rw [List.length_reverse]; exact hz, _, 0, r.reverse, Heap.get?_push_size _ rfl⟩
  · obtain ⟨its, r, ht, hz⟩ := I5.tuple hx
    have hlen := r.length
    refine tail_any (ops := [.ref a, .ref s4.heap.objs.size]) ht.typeIs PyProof.Rows.slot_tuple_getitem.lookup ?_ (by with_unfolding_all rfl)
    refine getItem_tuple_rev ht (Heap.IsSliceOf.new _ vl vu vs) pl pu ps ?_ (by rw [List.size_toArray]; omega)
    refine ⟨.ref _, _, I5.laid (t' := s4.toks) (o := .tup xs.reverse) (fun b ob q => Heap.get?_push_of_some _ q) (Nat.le_refl _) ?_, rfl, q _ (I5.hok.fresh (Nat.le_refl _))⟩
    exact ⟨by rw [List.length_reverse]; exact hz, _, r.reverse, IsTup.new _ _⟩
def gRevA : D → Option D
  | .n .lst _ xs => if isFL xs = true then some (.lst true xs.reverse) else none
  | .n .tup _ xs => some (.tup xs.reverse)
  | _ => none
section
variable {X : Cx} {cA : Str → Addr} {W : WX} {fa : Env → Out D} {a : Expr}
theorem de_revA {k : Nat} {p1 p2 p3 pos : Pos} (ha : DE X cA W fa a) : DE X cA W (dU gRevA fa) (.Subscript a (.Slice none none (some (.UnaryOp .USub (.Constant (.int 1) k p1) p2)) p3) pos) :=
  PE.imp (pe_revA (dp_de ha)) (te_un (r := fun x H1 Q => ∃ a xs, x = .ref a ∧ ((SqL X.K H1 a xs ∧ ∀ p, H1 p = none → Q (.ref p) (upd H1 p (.lst xs.reverse))) ∨ (SqT X.K H1 a xs ∧ ∀ p, H1 p = none → Q (.ref p) (upd H1 p (.tup xs.reverse))))) (g := gRevA) (by
    refine ⟨@fun d1 d v1 H Z f1 Q h1 w hg q => ?_⟩
    unfold gRevA at hg
    split at hg
    · rename_i o xs
      split at hg
      · rename_i hf
        cases hg
        obtain ⟨p, vs, g, rfl, e1, r1, _⟩ := rep_lst h1
        refine ⟨p, vs, rfl, .inl ⟨SqL.of e1, fun p0 hp => ?_⟩⟩
        obtain ⟨a, b, c⟩ := new_lst w (repL_rev (repL_fl r1 hf)) hp
        exact q _ _ _ _ a b c
      · cases hg
    · rename_i o xs
      cases hg
      obtain ⟨p, vs, rfl, e1, r1, _⟩ := rep_tup h1
      refine ⟨p, vs, rfl, .inr ⟨e1, fun p0 hp => ?_⟩⟩
      obtain ⟨a, b, c⟩ := new_tup w (repL_rev r1) hp
      exact q _ _ _ _ a b c
    · cases hg))
end
end DL
namespace DL
open PySem L2
/-! ### (a, b), (c, d) = x, y -/
def tgP (g1 g2 : D → Env → Option Env) (d : D) (ρ : Env) : Option Env := match d with
  | .n .tup _ [a, b] => (match g1 a ρ with
    | some ρ1 => g2 b ρ1
    | none => none)
  | _ => none
theorem But.trans {is js : List Nat} {σ σ1 σ2 : L2.St} (a : But is σ σ1) (b : But js σ1 σ2) : But (is ++ js) σ σ2 :=
  ⟨by rw [b.1, a.1], fun j hj => by
    rw [List.mem_append] at hj
    rw [b.2 j fun m => hj (.inr m), a.2 j fun m => hj (.inl m)]⟩
theorem dg_pair {X : Cx} {cA : Str → Addr} {is js : List Nat} {g1 g2 : D → Env → Option Env} {a b : Expr} {x1 : Nat} {pos : Pos} (hc : X.calm = true) (ha : DG X cA is g1 a) (hb : DG X cA js g2 b)
    (hn : (assignEach [a, b] X.env).length = 2 := by kernel_rfl) (hst : (assignEach [a, b] X.env).findIdx? (·.1) = none := by kernel_rfl)
    (hs1 : (assignEach [a, b] X.env).map (·.2) = assign a X.env :: (assignEach [b] X.env).map (·.2) := by kernel_rfl) (hs2 : (assignEach [b] X.env).map (·.2) = assign b X.env :: (assignEach [] X.env).map (·.2) := by kernel_rfl) :
    DG X cA (is ++ js) (tgP g1 g2) (.Tuple [a, b] x1 pos) := PG.imp (pg_tup hc (pgs_cons ha (pgs_cons hb pgs_nil hs2) hs1) hn hst) fun v σ H Q ⟨d, Z, L, ρ, ρ', r, w, hd, e, q⟩ => by
  unfold tgP at e
  split at e
  · rename_i o x y
    obtain ⟨p, vs, rfl, e1, r1, _⟩ := rep_tup hd
    obtain ⟨v1, vs1, f1, f2, ev, h1, h2, ef⟩ := r1
    obtain ⟨v2, vs2, f3, f4, ev2, h3, h4, ef2⟩ := h2
    have ee := List.append_eq_nil_iff.mp ef.symm
    rw [ee.1] at h1
    have ee2 := List.append_eq_nil_iff.mp (ef2.symm.trans ee.2)
    rw [ee2.1] at h3
    obtain ⟨e4, _⟩ := h4
    subst e4 ev2 ev
    cases hg : g1 x ρ with
    | none => rw [hg] at e; cases e
    | some ρ1 =>
      rw [hg] at e
      refine ⟨p, [v1, v2], rfl, e1, rfl, v1, [v2], rfl, x, Z, L, ρ, ρ1, r, w, h1, hg, fun σ1 H1 Z1 L1 r1 w1 F1 b1 => ?_⟩
      refine ⟨v2, [], rfl, y, Z1, L1, ρ1, ρ', r1, w1, repD_wait (fp := []) w h3 F1, e, fun σ2 H2 Z2 L2 r2 w2 F2 b2 => ?_⟩
      exact ⟨rfl, q σ2 H2 Z2 L2 r2 w2 (F1.trans F2) (b1.trans b2)⟩
  · cases e
theorem s_tgP {g1 g2 : D → DL.Env → Option DL.Env} {o : Bool} {a b : D} {ρ : DL.Env} : tgP g1 g2 (.n .tup o [a, b]) ρ = (match g1 a ρ with | some ρ1 => g2 b ρ1 | none => none) := rfl
end DL
namespace DL
open PySem L2 PyProof.Rows
/-! ### a * b, a + b, a - b by the class's own methods -/
def tBinS (C : Addr) (sp : Sp) (E : L2.St → XK) (ta tb : TE) : TE := fun σ H Q => ta σ H fun x H1 => tb σ H1 fun y H2 => ∃ a b dx dy fs gs, x = .ref a ∧ y = .ref b ∧ H2 a = some (.ins C dx fs) ∧ H2 b = some (.ins C dy gs) ∧ sp [x, y] H2 Q (E σ)
section
variable {X : Cx} {cA : Str → Addr} {W : WX} {fa fb : Env → Out D} {k : Nat} {kio : Option Nat} {f : Addr} {fd : FuncData} {ps : List Str} {F : List D → FR} {mn : Str} {pos : Pos} {a b : Expr} {op : Operator}
theorem pe_binS {C : Addr} {sp : Sp} {E : L2.St → XK} {ta tb : TE} (ha : PE X a ta) (hb0 : PE X b tb) (hsf : PySem.W.selfFirst X.K C = true) (hm : Meth X.K C mn f) (hop : PySem.dunder op.info.2 = mn) (Fo : FnOk X.prog X.w X.K X.mg X.base (L2.CX X.prog X.w) k f fd ps sp) (hr : Room k X.A) (hb : Binds X.K fd ps []) (hx : ∀ σ, PassesAt (L2.CX X.prog X.w) X σ (E σ)) :
    PE X (.BinOp a op b pos) (tBinS C sp E ta tb) := by
  refine ⟨fun pins s σ H Q I h => ?_⟩
  refine wpAny_BinOp (bin ha hb0 I h fun v u s2 x y H2 I2 rx ry q => ?_)
  obtain ⟨p, q', dx, dy, fs, gs, rfl, rfl, hA, hB, hsp⟩ := q
  cases rx
  cases ry
  obtain ⟨mA, J, _⟩ := ins_get I2.hok hA
  obtain ⟨mB, J', _⟩ := ins_get I2.hok hB
  obtain ⟨od, J, _⟩ := J.look
  obtain ⟨od', J', _⟩ := J'.look
  obtain ⟨m, hF⟩ := I2.fr
  subst hop
  refine PySem.W.binop_K (C := C) hF I2.ok.mod.kin J J'.type hsf hm.at_ hm.fn ?_
  refine wpAny_mono (run_fnS (us := [.ref p, .ref q']) (vs := [.ref p, .ref q']) Fo hr hb (hx σ) I2 (.cons rfl (.cons rfl .nil)) hsp) (fun v s' hv => ?_) fun _ _ e => e
  obtain ⟨x, H', I', rx, q⟩ := hv
  cases v <;> first | exact ⟨x, H', I', rx, q⟩ | (cases x <;> first | (obtain ⟨t, e⟩ := rx; cases e; done) | (cases rx; done) | exact rx.elim)
end
end DL
namespace DL
open PySem L2 PyProof.Rows
/-- a op b, both of the class -/
def dBinO (C : Str) (F : List D → FR) (fa fb : Env → Out D) : Env → Out D := fun ρ => match fa ρ with
  | .ok (.n (.ins C1 fs) false xs) ρ1 => if C1 = C ∧ isFL xs = true then (match fb ρ1 with
    | .ok (.n (.ins C2 gs) false ys) ρ2 => if C2 = C ∧ isFL ys = true then (match F [.n (.ins C1 fs) false xs, .n (.ins C2 gs) false ys] with
        | .rt d _ => .ok d ρ2
        | .ex e _ => .ex e ρ2
        | .st => .st) else .st
    | .ok _ _ => .st
    | .ex e ρ2 => .ex e ρ2
    | .st => .st) else .st
  | .ok _ _ => .st
  | .ex e ρ1 => .ex e ρ1
  | .st => .st
section
variable {X : Cx} {cA : Str → Addr} {W : WX} {fa fb : Env → Out D} {k : Nat} {kio : Option Nat} {f : Addr} {fd : FuncData} {ps : List Str} {F : List D → FR} {mn : Str} {pos : Pos} {a b : Expr} {op : Operator}
theorem te_binO {K : PySem.W.Frag} {C : Str} : ∀ σ H Q, TEof K cA W (dBinO C F fa fb) σ H Q → tBinS (cA C) (spF K cA 2 kio F) (WE W) (TEof K cA W fa) (TEof K cA W fb) σ H Q := by
  rintro σ H Q ⟨Z, L, ρ, r, w, p⟩
  refine ⟨Z, L, ρ, r, w, ?_⟩
  unfold dBinO at p
  cases ha : fa ρ with
  | st => rw [ha] at p; exact p
  | ex e ρ' => rw [ha] at p; exact p
  | ok d ρ1 =>
    rw [ha] at p
    intro v H1 Z1 L1 f1 r1 w1 h1 F1
    split at p
    · rename_i C1 fs xs ρ1' eo
      cases eo
      split at p
      · rename_i hc
        obtain ⟨rfl, hF⟩ := hc
        have hisf : isF (.n (.ins C1 fs) false xs) = true := by
          show (!false && isFL xs) = true
          rw [hF]; rfl
        have efp := repD_isF _ h1 hisf
        subst efp
        refine ⟨Z1, L1, ρ1, r1, w1, ?_⟩
        cases hb : fb ρ1 with
        | st => rw [hb] at p; exact p
        | ex e ρ' => rw [hb] at p; exact exw p F1
        | ok d2 ρ2 =>
          rw [hb] at p
          intro v2 H2 Z2 L2 f2 r2 w2 h2 F2
          split at p
          · rename_i C2 gs ys ρ2' eo2
            cases eo2
            split at p
            · rename_i hc2
              obtain ⟨rfl, hG⟩ := hc2
              have hisf2 : isF (.n (.ins C2 gs) false ys) = true := by
                show (!false && isFL ys) = true
                rw [hG]; rfl
              have efp2 := repD_isF _ h2 hisf2
              subst efp2
              have hself : RepD K cA H2 Z2 (.n (.ins C2 fs) false xs) v [] := repD_wait (fp := []) w1 h1 F2
              have hself' := hself
              obtain ⟨q1, vs1, g1, dx1, rfl, a1, _⟩ := rep_ins hself'
              have h2' := h2
              obtain ⟨q2, vs2, g2, dx2, rfl, a2, _⟩ := rep_ins h2'
              refine ⟨q1, q2, dx1, dx2, _, _, rfl, rfl, a1, a2, ?_⟩
              have hall : RepL K cA H2 Z2 [.n (.ins C2 fs) false xs, .n (.ins C2 gs) false ys] [.ref q1, .ref q2] [] := ⟨.ref q1, [.ref q2], [], [], rfl, hself, ⟨.ref q2, [], [], [], rfl, h2, ⟨rfl, rfl⟩, rfl⟩, rfl⟩
              refine call_in (xs := [.n (.ins C2 fs) false xs, .n (.ins C2 gs) false ys]) rfl r2 w2 hall (F1.trans F2) ?_
              have efr : frzL [.n (.ins C2 fs) false xs, .n (.ins C2 gs) false ys] = [.n (.ins C2 fs) false xs, .n (.ins C2 gs) false ys] := by
                show [frz _, frz _] = _
                rw [frz_isF _ hisf, frz_isF _ hisf2]
              rw [efr]
              exact p
            · exact p.elim
          · exact p.elim
          · rename_i e; cases e
          · rename_i e; cases e
      · exact p.elim
    · exact p.elim
    · rename_i e; cases e
    · rename_i e; cases e
theorem de_binO {C : Str} (ha : DE X cA W fa a) (hb0 : DE X cA W fb b) (hsf : PySem.W.selfFirst X.K (cA C) = true) (hm : Meth X.K (cA C) mn f) (hop : PySem.dunder op.info.2 = mn) (Fo : FnOk X.prog X.w X.K X.mg X.base (L2.CX X.prog X.w) k f fd ps (spF X.K cA 2 kio F)) (hr : Room k X.A) (hb : Binds X.K fd ps []) (tk : Takes X W) :
    DE X cA W (dBinO C F fa fb) (.BinOp a op b pos) := PE.imp (pe_binS ha hb0 hsf hm hop Fo hr hb (passAt tk)) te_binO
theorem de_binOG {C : Str} (ha : DE X cA W fa a) (hb0 : DE X cA W fb b) (hsf : PySem.W.selfFirst X.K (cA C) = true) (hm : Meth X.K (cA C) mn f) (Fo : OkC X.prog X.w X.K X.mg X.base f ps k (spF X.K cA 2 kio F)) (hr : Room k X.A) (tk : Takes X W) (hop : PySem.dunder op.info.2 = mn := by kernel_rfl) :
    DE X cA W (dBinO C F fa fb) (.BinOp a op b pos) :=
  let ⟨fd, Fo, hb⟩ := Fo.ex
  de_binO ha hb0 hsf hm hop Fo hr hb tk
end
end DL
namespace DL
open PySem L2 PyProof.Rows
/-! ### -a by the class's own method -/
def tNegS (C : Addr) (sp : Sp) (E : L2.St → XK) (ta : TE) : TE := fun σ H Q => ta σ H fun x H1 => ∃ a dx fs, x = .ref a ∧ H1 a = some (.ins C dx fs) ∧ sp [x] H1 Q (E σ)
def dNegO (C : Str) (F : List D → FR) (fa : Env → Out D) : Env → Out D := fun ρ => match fa ρ with
  | .ok (.n (.ins C1 fs) false xs) ρ1 => if C1 = C ∧ isFL xs = true then (match F [.n (.ins C1 fs) false xs] with
        | .rt d _ => .ok d ρ1
        | .ex e _ => .ex e ρ1
        | .st => .st) else .st
  | .ok _ _ => .st
  | .ex e ρ1 => .ex e ρ1
  | .st => .st
section
variable {X : Cx} {cA : Str → Addr} {W : WX} {fa : Env → Out D} {k : Nat} {kio : Option Nat} {f : Addr} {fd : FuncData} {ps : List Str} {F : List D → FR} {pos : Pos} {a : Expr}
theorem pe_negS {C : Addr} {sp : Sp} {E : L2.St → XK} {ta : TE} (ha : PE X a ta) (hm : Meth X.K C "__neg__" f) (Fo : FnOk X.prog X.w X.K X.mg X.base (L2.CX X.prog X.w) k f fd ps sp) (hr : Room k X.A) (hb : Binds X.K fd ps []) (hx : ∀ σ, PassesAt (L2.CX X.prog X.w) X σ (E σ)) :
    PE X (.UnaryOp .USub a pos) (tNegS C sp E ta) := by
  refine ⟨fun pins s σ H Q I h => ?_⟩
  refine UnaryOp_ (thn (ha.run pins s σ H _ I h) fun v s1 ⟨x, H1, I1, r1, q1⟩ => ?_)
  obtain ⟨p, dx, fs, rfl, hA, hsp⟩ := q1
  cases r1
  obtain ⟨mA, J, _⟩ := ins_get I1.hok hA
  obtain ⟨od, J, _⟩ := J.look
  obtain ⟨m, hF⟩ := I1.fr
  refine PySem.W.ksp_neg (C := C) hF I1.ok.mod.kin J hm.at_ hm.fn ?_
  exact run_fnS (us := [.ref p]) (vs := [.ref p]) Fo hr hb (hx σ) I1 (.cons rfl .nil) hsp
theorem te_negO {K : PySem.W.Frag} {C : Str} : ∀ σ H Q, TEof K cA W (dNegO C F fa) σ H Q → tNegS (cA C) (spF K cA 1 kio F) (WE W) (TEof K cA W fa) σ H Q := by
  rintro σ H Q ⟨Z, L, ρ, r, w, p⟩
  refine ⟨Z, L, ρ, r, w, ?_⟩
  unfold dNegO at p
  cases ha : fa ρ with
  | st => rw [ha] at p; exact p
  | ex e ρ' => rw [ha] at p; exact p
  | ok d ρ1 =>
    rw [ha] at p
    intro v H1 Z1 L1 f1 r1 w1 h1 F1
    split at p
    · rename_i C1 fs xs ρ1' eo
      cases eo
      split at p
      · rename_i hc
        obtain ⟨rfl, hF⟩ := hc
        have hisf : isF (.n (.ins C1 fs) false xs) = true := by
          show (!false && isFL xs) = true
          rw [hF]; rfl
        have efp := repD_isF _ h1 hisf
        subst efp
        have h1' := h1
        obtain ⟨q1, vs1, g1, dx1, rfl, a1, _⟩ := rep_ins h1'
        refine ⟨q1, dx1, _, rfl, a1, ?_⟩
        have hall : RepL K cA H1 Z1 [.n (.ins C1 fs) false xs] [.ref q1] [] := ⟨.ref q1, [], [], [], rfl, h1, ⟨rfl, rfl⟩, rfl⟩
        refine call_in (xs := [.n (.ins C1 fs) false xs]) rfl r1 w1 hall F1 ?_
        have efr : frzL [.n (.ins C1 fs) false xs] = [.n (.ins C1 fs) false xs] := by
          show [frz _] = _
          rw [frz_isF _ hisf]
        rw [efr]
        exact p
      · exact p.elim
    · exact p.elim
    · rename_i e; cases e
    · rename_i e; cases e
theorem de_negOG {C : Str} (ha : DE X cA W fa a) (hm : Meth X.K (cA C) "__neg__" f) (Fo : OkC X.prog X.w X.K X.mg X.base f ps k (spF X.K cA 1 kio F)) (hr : Room k X.A) (tk : Takes X W) :
    DE X cA W (dNegO C F fa) (.UnaryOp .USub a pos) :=
  let ⟨fd, Fo, hb⟩ := Fo.ex
  PE.imp (pe_negS ha hm Fo hr hb (passAt tk)) te_negO
end
end DL
namespace DL
open PySem L2
/-! ### what a run on data ends in -/
def SO {α : Type} (o : Option α) (P : α → Prop) : Prop := match o with
  | some x => P x
  | none => False
@[simp] theorem so_some {α : Type} {x : α} {P : α → Prop} : SO (some x) P = P x := rfl
@[simp] theorem so_none {α : Type} {P : α → Prop} : SO none P = False := rfl
@[simp] theorem so_ite {α : Type} {c : Prop} [Decidable c] {a b : Option α} {P : α → Prop} : SO (if c then a else b) P = (if c then SO a P else SO b P) := by split <;> rfl
def WO {α : Type} (E : Exn → DL.Env → Prop) (P : α → DL.Env → Prop) : Out α → Prop
  | .ok x ρ => P x ρ
  | .ex e ρ => E e ρ
  | .st => False
abbrev NoE {β : Type} : Exn → β → Prop := fun _ _ => False
@[simp] theorem wo_ok {α : Type} {E : Exn → DL.Env → Prop} {P : α → DL.Env → Prop} {x : α} {ρ : DL.Env} : WO E P (.ok x ρ) = P x ρ := rfl
@[simp] theorem wo_ex {α : Type} {E : Exn → DL.Env → Prop} {P : α → DL.Env → Prop} {e : Exn} {ρ : DL.Env} : WO E P (.ex e ρ) = E e ρ := rfl
structure Ps where
  nx : DL.Env → Prop
  rt : D → DL.Env → Prop
  bk : DL.Env → Prop
  ct : DL.Env → Prop
  ex : Exn → DL.Env → Prop
def WP (Q : Ps) : Fl → Prop
  | .nx ρ => Q.nx ρ
  | .rt d ρ => Q.rt d ρ
  | .bk ρ => Q.bk ρ
  | .ct ρ => Q.ct ρ
  | .ex e ρ => Q.ex e ρ
  | .st => False
def WF (E : Exn → Option D → Prop) (P : D → Option D → Prop) : FR → Prop
  | .rt d io => P d io
  | .ex e io => E e io
  | .st => False
@[simp] theorem wf_rt {E : Exn → Option D → Prop} {P : D → Option D → Prop} {d : D} {io : Option D} : WF E P (.rt d io) = P d io := rfl
@[simp] theorem wf_exr {E : Exn → Option D → Prop} {P : D → Option D → Prop} {e : Exn} {io : Option D} : WF E P (.ex e io) = E e io := rfl
theorem WF.mono {E : Exn → Option D → Prop} {P R : D → Option D → Prop} {r : FR} (h : WF NoE P r) (i : ∀ d io, P d io → R d io) : WF E R r := by
  cases r with
  | rt d io => exact i d io h
  | ex e io => exact h.elim
  | st => exact h
theorem wf_eq {r : FR} {d : D} {io : Option D} (h : WF NoE (fun d' io' => d' = d ∧ io' = io) r) : r = .rt d io := by
  cases r with
  | rt d' io' => obtain ⟨a, b⟩ := h; subst a b; rfl
  | ex e io => exact h.elim
  | st => exact h.elim
theorem wf_exq {r : FR} {e : Exn} {io : Option D} (h : WF (fun e' io' => e' = e ∧ io' = io) (fun _ _ => False) r) : r = .ex e io := by
  cases r with
  | rt d' io' => exact h.elim
  | ex e io => obtain ⟨a, b⟩ := h; subst a b; rfl
  | st => exact h.elim
theorem wf_ex {P : D → Option D → Prop} {r : FR} (h : WF NoE P r) : ∃ d io, r = .rt d io ∧ P d io := by
  cases r with
  | rt d' io' => exact ⟨_, _, rfl, h⟩
  | ex e io => exact h.elim
  | st => exact h.elim
section
variable {E : Exn → DL.Env → Prop} {P : D → DL.Env → Prop} {PB : Bool → DL.Env → Prop} {PA : List Ag → DL.Env → Prop} {PL : List D → DL.Env → Prop} {ρ : DL.Env} {i j n : Nat} {f fa fb : DL.Env → Out D} {t u : DL.Env → Out Bool} {g : DL.Env → Out (List Ag)} {x : At}
@[simp] theorem w_C : WO E P (dC x ρ) = P (.a x) ρ := rfl
@[simp] theorem w_Var : WO E P (dVar i ρ) = SO (ρ[i]?) (fun o => SO o fun d => isF d = true ∧ P d ρ) := by
  unfold dVar
  split
  · rename_i d h
    rw [h]
    split
    · rename_i h2; simp [h2]
    · rename_i h2; simp [h2, WO]
  · rename_i h
    cases e : ρ[i]? with
    | none => rfl
    | some o =>
      cases o with
      | none => rfl
      | some d => exact absurd e (h d)
@[simp] theorem w_Peek : WO E P (dPeek i ρ) = SO (ρ[i]?) (fun o => SO o fun d => P d ρ) := by
  unfold dPeek
  split
  · rename_i d h
    rw [h]; rfl
  · rename_i h
    cases e : ρ[i]? with
    | none => rfl
    | some o =>
      cases o with
      | none => rfl
      | some d => exact absurd e (h d)
@[simp] theorem w_Fz : WO E P (dFz f ρ) = WO E (fun d ρ1 => P (frz d) ρ1) (f ρ) := by
  unfold dFz; cases f ρ <;> rfl
@[simp] theorem w_Op2 {g : D → D → Option D} : WO E P (dOp2 g fa fb ρ) = WO E (fun d1 ρ1 => WO E (fun d2 ρ2 => SO (g d1 d2) fun d => P d ρ2) (fb ρ1)) (fa ρ) := by
  unfold dOp2
  cases fa ρ with
  | st => rfl
  | ex e ρ1 => rfl
  | ok d1 ρ1 =>
    dsimp only [wo_ok]
    cases fb ρ1 with
    | st => rfl
    | ex e ρ2 => rfl
    | ok d2 ρ2 =>
      dsimp only [wo_ok]
      cases g d1 d2 <;> rfl
@[simp] theorem w_U {g : D → Option D} : WO E P (dU g fa ρ) = WO E (fun d1 ρ1 => SO (g d1) fun d => P d ρ1) (fa ρ) := by
  unfold dU
  cases fa ρ with
  | st => rfl
  | ex e ρ1 => rfl
  | ok d1 ρ1 => dsimp only [wo_ok]; cases g d1 <;> rfl
def asB (d : D) (P : Bool → Prop) : Prop := match d with
  | .a (.bl b) => P b
  | _ => False
@[simp] theorem asB_bl {b : Bool} {P : Bool → Prop} : asB (.a (.bl b)) P = P b := rfl
def asI (d : D) (P : Int → Prop) : Prop := match d with
  | .a (.int b) => P b
  | _ => False
@[simp] theorem asI_int {b : Int} {P : Int → Prop} : asI (.a (.int b)) P = P b := rfl
@[simp] theorem w_B : WO E PB (dB f ρ) = WO E (fun d ρ1 => asB d fun b => PB b ρ1) (f ρ) := by
  unfold dB
  cases f ρ with
  | st => rfl
  | ex e ρ1 => rfl
  | ok d ρ1 =>
    cases d with
    | n _ _ _ => rfl
    | a x => cases x <;> rfl
@[simp] theorem w_AndT : WO E PB (dAndT t u ρ) = WO E (fun b ρ1 => if b = true then WO E PB (u ρ1) else PB false ρ1) (t ρ) := by
  unfold dAndT
  cases t ρ with
  | st => rfl
  | ex e ρ1 => rfl
  | ok b ρ1 => cases b <;> rfl
@[simp] theorem w_OrT : WO E PB (dOrT t u ρ) = WO E (fun b ρ1 => if b = true then PB true ρ1 else WO E PB (u ρ1)) (t ρ) := by
  unfold dOrT
  cases t ρ with
  | st => rfl
  | ex e ρ1 => rfl
  | ok b ρ1 => cases b <;> rfl
@[simp] theorem w_NotT : WO E PB (dNotT t ρ) = WO E (fun b ρ1 => PB (!b) ρ1) (t ρ) := by
  unfold dNotT
  cases t ρ <;> rfl
@[simp] theorem w_AndV : WO E P (dAndV fa fb ρ) = WO E (fun d ρ1 => asB d fun b => if b = true then WO E P (fb ρ1) else P (.a (.bl false)) ρ1) (fa ρ) := by
  rw [← w_B]
  unfold dAndV
  cases dB fa ρ with
  | st => rfl
  | ex e ρ1 => rfl
  | ok b ρ1 => cases b <;> rfl
@[simp] theorem w_OrV : WO E P (dOrV fa fb ρ) = WO E (fun d ρ1 => asB d fun b => if b = true then P (.a (.bl true)) ρ1 else WO E P (fb ρ1)) (fa ρ) := by
  rw [← w_B]
  unfold dOrV
  cases dB fa ρ with
  | st => rfl
  | ex e ρ1 => rfl
  | ok b ρ1 => cases b <;> rfl
@[simp] theorem w_NotV : WO E P (dNotV fa ρ) = WO E (fun d ρ1 => asB d fun b => P (.a (.bl (!b))) ρ1) (fa ρ) := by
  rw [← w_B]
  unfold dNotV
  cases dB fa ρ <;> rfl
@[simp] theorem w_IfE : WO E P (dIfE t fa fb ρ) = WO E (fun b ρ1 => if b = true then WO E P (fa ρ1) else WO E P (fb ρ1)) (t ρ) := by
  unfold dIfE
  cases t ρ with
  | st => rfl
  | ex e ρ1 => rfl
  | ok b ρ1 => cases b <;> rfl
@[simp] theorem w_ANil : WO E PA (dANil ρ) = PA [] ρ := rfl
@[simp] theorem w_ACons : WO E PA (dACons f g ρ) = WO E (fun d ρ1 => WO E (fun ds ρ2 => PA (.d d :: ds) ρ2) (g ρ1)) (f ρ) := by
  unfold dACons
  cases f ρ with
  | st => rfl
  | ex e ρ1 => rfl
  | ok d ρ1 => dsimp only [wo_ok]; cases g ρ1 <;> rfl
@[simp] theorem w_ALent : WO E PA (dALent i g ρ) = SO (ρ[i]?) (fun o => SO o fun _ => WO E (fun ds ρ2 => PA (.s i :: ds) ρ2) (g ρ)) := by
  unfold dALent
  split
  · rename_i d h
    rw [h]
    dsimp only [so_some]
    cases g ρ <;> rfl
  · rename_i h
    cases e : ρ[i]? with
    | none => rfl
    | some o =>
      cases o with
      | none => rfl
      | some d => exact absurd e (h d)
@[simp] theorem w_Tup : WO E P (dTup g ρ) = WO E (fun ds ρ1 => SO (agL ds) fun xs => xs.length ≤ cap ∧ P (.tup (frzL xs)) ρ1) (g ρ) := by
  unfold dTup
  cases g ρ with
  | st => rfl
  | ex e ρ1 => rfl
  | ok ds ρ1 =>
    dsimp only [wo_ok]
    cases agL ds with
    | none => rfl
    | some xs =>
      dsimp only [so_some]
      split
      · rename_i h; simp [h]
      · rename_i h; simp only [h, false_and]; rfl
@[simp] theorem w_Lst : WO E P (dLst g ρ) = WO E (fun ds ρ1 => SO (agL ds) fun xs => xs.length ≤ cap ∧ P (.lst true xs) ρ1) (g ρ) := by
  unfold dLst
  cases g ρ with
  | st => rfl
  | ex e ρ1 => rfl
  | ok ds ρ1 =>
    dsimp only [wo_ok]
    cases agL ds with
    | none => rfl
    | some xs =>
      dsimp only [so_some]
      split
      · rename_i h; simp [h]
      · rename_i h; simp only [h, false_and]; rfl
@[simp] theorem w_Call {F : List D → FR} : WO E P (dCall n F g ρ) = WO E (fun ds ρ1 => SO (agL ds) fun xs => xs.length = n ∧ WF (fun e _ => E e ρ1) (fun d _ => P d ρ1) (F (frzL xs))) (g ρ) := by
  unfold dCall
  cases g ρ with
  | st => rfl
  | ex e ρ1 => rfl
  | ok ds ρ1 =>
    dsimp only [wo_ok]
    cases agL ds with
    | none => rfl
    | some xs =>
      dsimp only [so_some]
      split
      · rename_i h
        simp only [h, true_and]
        cases F (frzL xs) <;> rfl
      · rename_i h; simp only [h, false_and]; rfl
@[simp] theorem w_Call0 {F : List D → FR} : WO E P (dCall0 F ρ) = WF (fun e _ => E e ρ) (fun d _ => P d ρ) (F []) := by
  unfold dCall0
  cases F [] <;> rfl
@[simp] theorem w_CallL {F : List D → FR} {kio : Option Nat} : WO E P (dCallL n kio F g ρ) = WO E (fun ds ρ1 => SO (agL1 ds) fun p => SO (ρ1[p.2.1]?) fun o => SO o fun d0 => (kio = some p.1.length ∧ p.1.length + (p.2.2.length + 1) = n) ∧ WF (fun e io => SO io fun d1 => E e (ρ1.set p.2.1 (some d1))) (fun d io => SO io fun d1 => P d (ρ1.set p.2.1 (some d1))) (F (frzL p.1 ++ (d0 :: frzL p.2.2)))) (g ρ) := by
  unfold dCallL
  cases g ρ with
  | st => rfl
  | ex e ρ1 => rfl
  | ok ds ρ1 =>
    dsimp only [wo_ok]
    cases agL1 ds with
    | none => rfl
    | some p =>
      obtain ⟨xs, i, ys⟩ := p
      dsimp only [so_some]
      cases ρ1[i]? with
      | none => rfl
      | some o =>
        cases o with
        | none => rfl
        | some d0 =>
          dsimp only [so_some]
          split
          · rename_i h
            simp only [h, and_self, true_and]
            cases F (frzL xs ++ (d0 :: frzL ys)) with
            | st => rfl
            | ex e io => cases io <;> rfl
            | rt d io => cases io <;> rfl
          · rename_i h; simp only [h, false_and]; rfl
@[simp] theorem w_Make {F : List D → FR} {C : Str} : WO E P (dMake C n F g ρ) = WO E (fun ds ρ1 => SO (agL ds) fun xs => xs.length = n ∧ WF (fun e _ => E e ρ1) (fun d io => d = .a .non ∧ SO io fun d1 => P d1 ρ1) (F (.n (.ins C []) true [] :: frzL xs))) (g ρ) := by
  unfold dMake
  cases g ρ with
  | st => rfl
  | ex e ρ1 => rfl
  | ok ds ρ1 =>
    dsimp only [wo_ok]
    cases agL ds with
    | none => rfl
    | some xs =>
      dsimp only [so_some]
      split
      · rename_i h
        simp only [h, true_and]
        cases F (.n (.ins C []) true [] :: frzL xs) with
        | st => rfl
        | ex e io => rfl
        | rt d io =>
          cases io with
          | none => cases d with
            | n _ _ _ => simp [WF, WO, SO]
            | a x => cases x <;> simp [WF, WO, SO]
          | some d1 => cases d with
            | n _ _ _ => simp [WF, WO, SO]
            | a x => cases x <;> simp [WF, WO, SO]
      · rename_i h; simp only [h, false_and]; rfl
def asIns (d : D) (P : Str → List Str → List D → Prop) : Prop := match d with
  | .n (.ins C fs) false xs => P C fs xs
  | _ => False
@[simp] theorem asIns_ins {C : Str} {fs : List Str} {xs : List D} {P : Str → List Str → List D → Prop} : asIns (.n (.ins C fs) false xs) P = P C fs xs := rfl
@[simp] theorem w_Meth {F : List D → FR} {C m : Str} : WO E P (dMeth C m n F fa g ρ) = WO E (fun d ρ1 => asIns d fun C' fs xs => (C' = C ∧ m ∉ fs ∧ isFL xs = true) ∧ WO E P (dCall n (fun ds => F (.n (.ins C fs) false xs :: ds)) g ρ1)) (fa ρ) := by
  unfold dMeth
  cases fa ρ with
  | st => rfl
  | ex e ρ1 => rfl
  | ok d ρ1 =>
    cases d with
    | a x => rfl
    | n k o xs =>
      cases k with
      | ins C' fs =>
        cases o with
        | true => rfl
        | false =>
          dsimp only [wo_ok, asIns_ins]
          split
          · rename_i h; simp only [h, and_self, true_and, not_false_eq_true]
          · rename_i h; simp only [h, false_and]; rfl
      | tup => rfl
      | lst => rfl
      | scr => rfl
      | dct ks => rfl
@[simp] theorem w_Iter : WO E PL (dIter f ρ) = WO E (fun d ρ1 => SO (itemsOf d) fun xs => isF d = true ∧ PL xs ρ1) (f ρ) := by
  unfold dIter
  cases f ρ with
  | st => rfl
  | ex e ρ1 => rfl
  | ok d ρ1 =>
    dsimp only [wo_ok]
    cases itemsOf d with
    | none => rfl
    | some xs =>
      dsimp only [so_some]
      split
      · rename_i h; simp [h]
      · rename_i h; simp [h, WO]
@[simp] theorem w_Rng1 : WO E PL (dRng1 f ρ) = WO E (fun d ρ1 => asI d fun j => (-1000000 ≤ j ∧ j ≤ 1000000) ∧ PL (intL 0 j.toNat) ρ1) (f ρ) := by
  unfold dRng1
  cases f ρ with
  | st => rfl
  | ex e ρ1 => rfl
  | ok d ρ1 =>
    cases d with
    | n _ _ _ => rfl
    | a x =>
      cases x with
      | int j =>
        dsimp only [wo_ok, asI_int]
        split
        · rename_i h; simp [h]
        · rename_i h; simp only [h, false_and]; rfl
      | non => rfl
      | bl b => rfl
      | str s => rfl
@[simp] theorem w_Rng2 : WO E PL (dRng2 fa fb ρ) = WO E (fun d ρ1 => asI d fun i => WO E (fun d2 ρ2 => asI d2 fun j => ((-1000000 ≤ i ∧ i ≤ 1000000) ∧ -1000000 ≤ j ∧ j ≤ 1000000) ∧ PL (intL i (j - i).toNat) ρ2) (fb ρ1)) (fa ρ) := by
  unfold dRng2
  cases fa ρ with
  | st => rfl
  | ex e ρ1 => rfl
  | ok d ρ1 =>
    cases d with
    | n _ _ _ => rfl
    | a x =>
      cases x with
      | int i =>
        dsimp only [wo_ok, asI_int]
        cases fb ρ1 with
        | st => rfl
        | ex e ρ2 => rfl
        | ok d2 ρ2 =>
          cases d2 with
          | n _ _ _ => rfl
          | a y =>
            cases y with
            | int j =>
              dsimp only [wo_ok, asI_int]
              split
              · rename_i h; simp [h]
              · rename_i h; simp only [h, false_and]; rfl
            | non => rfl
            | bl b => rfl
            | str s => rfl
      | non => rfl
      | bl b => rfl
      | str s => rfl
@[simp] theorem w_Dp : WO E P (dDp f ρ) = WO E (fun d ρ1 => isF d = true ∧ P d ρ1) (f ρ) := by
  unfold dDp
  cases f ρ with
  | st => rfl
  | ex e ρ1 => rfl
  | ok d ρ1 =>
    dsimp only [wo_ok]
    split
    · rename_i h; simp [h]
    · rename_i h; simp [h, WO]
@[simp] theorem w_IxP {q : DL.Env → Option At} : WO E P (dIxP fa q ρ) = WO E (fun x ρ1 => SO (q ρ1) fun k => SO (gIxO x (.a k)) fun d => P d ρ1) (fa ρ) := by
  unfold dIxP
  cases fa ρ with
  | st => rfl
  | ex e ρ1 => rfl
  | ok d ρ1 =>
    dsimp only [wo_ok]
    cases q ρ1 with
    | none => rfl
    | some k => dsimp only [so_some]; cases gIxO d (.a k) <;> rfl
@[simp] theorem w_IxS : WO E P (dIxS i fb ρ) = WO E (fun k ρ1 => SO (ρ1[i]?) fun o => SO o fun x => SO (gIxO x k) fun d => P d ρ1) (fb ρ) := by
  unfold dIxS
  cases fb ρ with
  | st => rfl
  | ex e ρ1 => rfl
  | ok k ρ1 =>
    dsimp only [wo_ok]
    cases ρ1[i]? with
    | none => rfl
    | some o =>
      cases o with
      | none => rfl
      | some x => dsimp only [so_some]; cases gIxO x k <;> rfl
@[simp] theorem w_IxV : WO E P (dIxV i fb ρ) = SO (ρ[i]?) (fun o => SO o fun _ => WO E (fun k ρ1 => SO (ρ1[i]?) fun o => SO o fun x => SO (gIxO x k) fun d => isF d = true ∧ P d ρ1) (fb ρ)) := by
  unfold dIxV
  split
  · rename_i y h
    rw [h]
    dsimp only [so_some]
    rw [← w_IxS]
    cases dIxS i fb ρ with
    | st => rfl
    | ex e ρ1 => rfl
    | ok d ρ1 =>
      dsimp only [wo_ok]
      split
      · rename_i h; simp [h]
      · rename_i h; simp [h, WO]
  · rename_i h
    cases e : ρ[i]? with
    | none => rfl
    | some o =>
      cases o with
      | none => rfl
      | some d => exact absurd e (h d)
@[simp] theorem w_PopAt : WO E P (dPopAt i fb ρ) = SO (ρ[i]?) (fun o => SO o fun x => (match x with | .n .lst true _ => True | _ => False) ∧ WO E (fun k ρ1 => asI k fun z => SO (ρ1[i]?) fun o => SO o fun x => (match x with
    | .n .lst true xs => (-1000000 ≤ z ∧ z ≤ 1000000) ∧ SO (seqIndex? z xs.length) fun j => SO (xs[j]?) fun d => P d (ρ1.set i (some (.lst true (xs.eraseIdx j))))
    | _ => False)) (fb ρ)) := by
  unfold dPopAt
  split
  · rename_i ys h
    rw [h]
    dsimp only [so_some]
    rw [true_and]
    cases fb ρ with
    | st => rfl
    | ex e ρ1 => rfl
    | ok k ρ1 =>
      cases k with
      | n _ _ _ => rfl
      | a y =>
        cases y with
        | int z =>
          dsimp only [wo_ok, asI_int]
          split
          · rename_i xs h2
            rw [h2]
            dsimp only [so_some]
            split
            · rename_i h3
              simp only [h3, and_self, true_and]
              cases seqIndex? z xs.length with
              | none => rfl
              | some j => dsimp only [so_some]; cases xs[j]? <;> rfl
            · rename_i h3; simp only [h3, false_and]; rfl
          · rename_i h2
            cases e : ρ1[i]? with
            | none => rfl
            | some o =>
              cases o with
              | none => rfl
              | some d =>
                cases d with
                | a x => rfl
                | n k o xs =>
                  cases k with
                  | lst => cases o with
                    | true => exact absurd e (h2 xs)
                    | false => rfl
                  | _ => rfl
        | non => rfl
        | bl b => rfl
        | str s => rfl
  · rename_i h
    cases e : ρ[i]? with
    | none => rfl
    | some o =>
      cases o with
      | none => rfl
      | some d =>
        cases d with
        | a x => simp [WO, SO]
        | n k o xs =>
          cases k with
          | lst => cases o with
            | true => exact absurd e (h xs)
            | false => simp [WO, SO]
          | _ => simp [WO, SO]
end
theorem dPart_some {f : DL.Env → Out D} {ρ : DL.Env} {P : Option Int → DL.Env → Prop} : WO E P (dPart (some f) ρ) = WO E (fun d ρ1 => asI d fun i => P (some i) ρ1) (f ρ) := by
  unfold dPart
  dsimp only
  cases f ρ with
  | st => rfl
  | ex e ρ1 => rfl
  | ok d ρ1 =>
    cases d with
    | n _ _ _ => rfl
    | a x => cases x <;> rfl
@[simp] theorem w_part0 {ρ : DL.Env} {P : Option Int → DL.Env → Prop} : WO E P (dPart none ρ) = P none ρ := rfl
@[simp] theorem w_part1 {f : DL.Env → Out D} {ρ : DL.Env} {P : Option Int → DL.Env → Prop} : WO E P (dPart (some f) ρ) = WO E (fun d ρ1 => asI d fun i => P (some i) ρ1) (f ρ) := dPart_some
@[simp] theorem w_Sl {P : D → DL.Env → Prop} {fa : DL.Env → Out D} {lo hi : Option (DL.Env → Out D)} {ρ : DL.Env} : WO E P (dSl fa lo hi ρ) = WO E (fun x ρ1 => WO E (fun l ρ2 => WO E (fun u ρ3 => SO (gSl x l u) fun d => P d ρ3) (dPart hi ρ2)) (dPart lo ρ1)) (fa ρ) := by
  unfold dSl
  cases fa ρ with
  | st => rfl
  | ex e ρ1 => rfl
  | ok x ρ1 =>
    dsimp only [wo_ok]
    cases dPart lo ρ1 with
    | st => rfl
    | ex e ρ2 => rfl
    | ok l ρ2 =>
      dsimp only [wo_ok]
      cases dPart hi ρ2 with
      | st => rfl
      | ex e ρ3 => rfl
      | ok u ρ3 => dsimp only [wo_ok]; cases gSl x l u <;> rfl
/-! ### comprehensions -/
@[simp] theorem w_Lc {P : D → DL.Env → Prop} {vs : List Nat} {src : DL.Env → Out (List D)} {g : D → DL.Env → Option DL.Env} {t : DL.Env → Out Bool} {f : DL.Env → Out D} {ρ : DL.Env} :
    WO E P (dLc vs src g t f ρ) = WO E (fun ds ρ1 => ds.length ≤ cap ∧ WO NoE (fun ys ρ2 => P (.lst true ys) (backE ρ1 vs (wipeE ρ2 vs))) (lcL vs g t f ds (wipeE ρ1 vs))) (src ρ) := by
  unfold dLc
  cases src ρ with
  | st => rfl
  | ex e ρ1 => rfl
  | ok ds ρ1 =>
    dsimp only [wo_ok]
    split
    · rename_i h
      simp only [h, true_and]
      cases lcL vs g t f ds (wipeE ρ1 vs) <;> rfl
    · rename_i h; simp only [h, false_and]; rfl
/-- a comprehension whose parts leave the slots alone -/
theorem lcL_run {vs : List Nat} {g : D → DL.Env → Option DL.Env} {t : DL.Env → Out Bool} {f : DL.Env → Out D} {ρ : DL.Env} (tb : D → Bool) (fv : D → D) : ∀ (ds : List D),
    (∀ d ∈ ds, SO (g d ρ) fun ρ1 => WO NoE (fun b ρ2 => b = tb d ∧ (if tb d = true then WO NoE (fun y ρ3 => y = fv d ∧ wipeE ρ3 vs = ρ) (f ρ2) else wipeE ρ2 vs = ρ)) (t ρ1)) →
    lcL vs g t f ds ρ = .ok ((ds.filter tb).map fv) ρ
  | [], _ => rfl
  | d :: ds, h => by
    have ih := lcL_run tb fv ds fun e he => h e (List.mem_cons_of_mem _ he)
    have h0 := h d (by simp)
    unfold lcL
    cases hg : g d ρ with
    | none => rw [hg] at h0; exact h0.elim
    | some ρ1 =>
      rw [hg] at h0
      dsimp only [so_some] at h0 ⊢
      cases ht : t ρ1 with
      | st => rw [ht] at h0; exact h0.elim
      | ex e ρ2 => rw [ht] at h0; exact h0.elim
      | ok b ρ2 =>
        rw [ht] at h0
        obtain ⟨e1, h1⟩ := h0
        subst e1
        cases hb : tb d with
        | false =>
          rw [hb, if_neg Bool.false_ne_true] at h1
          dsimp only
          rw [h1, ih, List.filter_cons, hb]
          rfl
        | true =>
          rw [hb, if_pos rfl] at h1
          dsimp only
          cases hf : f ρ2 with
          | st => rw [hf] at h1; exact h1.elim
          | ex e ρ3 => rw [hf] at h1; exact h1.elim
          | ok y ρ3 =>
            rw [hf] at h1
            obtain ⟨e2, e3⟩ := h1
            subst e2
            dsimp only
            rw [e3, ih, List.filter_cons, hb]
            rfl
/-! ### statements -/
section
variable {Q : Ps} {ρ : DL.Env} {i j n : Nat} {f g : DL.Env → Fl} {fa fb : DL.Env → Out D} {t : DL.Env → Out Bool} {d : D}
@[simp] theorem p_nx : WP Q (.nx ρ) = Q.nx ρ := rfl
@[simp] theorem p_rt : WP Q (.rt d ρ) = Q.rt d ρ := rfl
@[simp] theorem p_Next : WP Q (dNext ρ) = Q.nx ρ := rfl
@[simp] theorem p_Break : WP Q (dBreak ρ) = Q.bk ρ := rfl
@[simp] theorem p_Cont : WP Q (dCont ρ) = Q.ct ρ := rfl
@[simp] theorem p_No : WP Q (dNo ρ) = False := rfl
@[simp] theorem p_Seq : WP Q (dSeq f g ρ) = WP ⟨fun ρ1 => WP Q (g ρ1), Q.rt, Q.bk, Q.ct, Q.ex⟩ (f ρ) := by
  unfold dSeq; cases f ρ <;> rfl
@[simp] theorem p_Bind {h : D → DL.Env → Fl} : WP Q (dBind fa h ρ) = WO Q.ex (fun d ρ1 => WP Q (h d ρ1)) (fa ρ) := by
  unfold dBind; cases fa ρ <;> rfl
@[simp] theorem p_If : WP Q (dIf t f g ρ) = WO Q.ex (fun b ρ1 => if b = true then WP Q (f ρ1) else WP Q (g ρ1)) (t ρ) := by
  unfold dIf
  cases t ρ with
  | st => rfl
  | ex e ρ1 => rfl
  | ok b ρ1 => cases b <;> rfl
@[simp] theorem p_Set : WP Q (stSet i d ρ) = (i < ρ.length ∧ Q.nx (ρ.set i (some d))) := by
  unfold stSet
  split
  · rename_i h; simp [h]
  · rename_i h; simp only [h, false_and]; rfl
@[simp] theorem p_RetMv : WP Q (dRetMv i ρ) = SO (ρ[i]?) (fun o => SO o fun d => Q.rt d (ρ.set i none)) := by
  unfold dRetMv
  split
  · rename_i d h; rw [h]; rfl
  · rename_i h
    cases e : ρ[i]? with
    | none => rfl
    | some o =>
      cases o with
      | none => rfl
      | some d => exact absurd e (h d)
def asL (d : D) (P : List D → Prop) : Prop := match d with
  | .n .lst true xs => P xs
  | _ => False
@[simp] theorem asL_lst {xs : List D} {P : List D → Prop} : asL (.n .lst true xs) P = P xs := rfl
theorem asL_cases {d : D} {P : List D → Prop} (h : ∀ xs, d ≠ .n .lst true xs) : asL d P = False := by
  cases d with
  | a x => rfl
  | n k o xs =>
    cases k with
    | lst => cases o with
      | true => exact absurd rfl (h xs)
      | false => rfl
    | _ => rfl
@[simp] theorem p_App : WP Q (stApp i d ρ) = SO (ρ[i]?) (fun o => SO o fun x => asL x fun xs => xs.length < cap ∧ Q.nx (ρ.set i (some (.lst true (xs ++ [d]))))) := by
  unfold stApp
  split
  · rename_i xs h
    rw [h]
    dsimp only [so_some, asL_lst]
    split
    · rename_i h; simp [h]
    · rename_i h; simp only [h, false_and]; rfl
  · rename_i h
    cases e : ρ[i]? with
    | none => rfl
    | some o =>
      cases o with
      | none => rfl
      | some d =>
        dsimp only [so_some]
        rw [asL_cases fun xs z => h xs (by rw [e, z])]
        rfl
@[simp] theorem p_Sub : WP Q (stSub i fb d ρ) = SO (ρ[i]?) (fun o => SO o fun x => asL x fun _ => WO Q.ex (fun k ρ2 => asI k fun z => SO (ρ2[i]?) fun o => SO o fun x => asL x fun xs => SO (ixN xs.length z) fun j => Q.nx (ρ2.set i (some (.lst true (xs.set j d))))) (fb ρ)) := by
  unfold stSub
  split
  · rename_i ys h
    rw [h]
    dsimp only [so_some, asL_lst]
    cases fb ρ with
    | st => rfl
    | ex e ρ1 => rfl
    | ok k ρ1 =>
      cases k with
      | n _ _ _ => rfl
      | a y =>
        cases y with
        | int z =>
          dsimp only [wo_ok, asI_int]
          split
          · rename_i xs h2
            rw [h2]
            dsimp only [so_some, asL_lst]
            cases ixN xs.length z <;> rfl
          · rename_i h2
            cases e : ρ1[i]? with
            | none => rfl
            | some o =>
              cases o with
              | none => rfl
              | some d =>
                dsimp only [so_some]
                rw [asL_cases fun xs z => h2 xs (by rw [e, z])]
                rfl
        | non => rfl
        | bl b => rfl
        | str s => rfl
  · rename_i h
    cases e : ρ[i]? with
    | none => rfl
    | some o =>
      cases o with
      | none => rfl
      | some d =>
        dsimp only [so_some]
        rw [asL_cases fun xs z => h xs (by rw [e, z])]
        rfl
@[simp] theorem p_Tg {g : D → DL.Env → Option DL.Env} : WP Q (stTg g d ρ) = SO (g d ρ) Q.nx := by
  unfold stTg; cases g d ρ <;> rfl
@[simp] theorem s_tg1 {P : DL.Env → Prop} : SO (tg1 i d ρ) P = (i < ρ.length ∧ P (ρ.set i (some d))) := by
  unfold tg1
  split
  · rename_i h; simp [h]
  · rename_i h; simp [h]
@[simp] theorem tgT_tup {is : List Nat} {o : Bool} {xs : List D} : tgT is (.n .tup o xs) ρ = tgL is xs ρ := rfl
@[simp] theorem tgL_nil : tgL [] [] ρ = some ρ := rfl
@[simp] theorem s_tgL {P : DL.Env → Prop} {is : List Nat} {ds : List D} : SO (tgL (i :: is) (d :: ds) ρ) P = (i < ρ.length ∧ SO (tgL is ds (ρ.set i (some d))) P) := by
  conv => lhs; unfold tgL
  split
  · rename_i h; simp [h]
  · rename_i h; simp [h]
@[simp] theorem p_Has : WP Q (dHas i f ρ) = SO (ρ[i]?) (fun o => SO o fun x => (match x with | .n .lst _ _ => True | _ => False) ∧ WP Q (f ρ)) := by
  unfold dHas
  split
  · rename_i o xs h
    rw [h]
    simp
  · rename_i h
    cases e : ρ[i]? with
    | none => rfl
    | some o =>
      cases o with
      | none => rfl
      | some d =>
        cases d with
        | a x => simp [WP, SO]
        | n k o xs =>
          cases k with
          | lst => exact absurd e (h o xs)
          | _ => simp [WP, SO]
def frzAt (i : Nat) (ρ : DL.Env) : DL.Env := match ρ[i]? with
  | some (some d) => ρ.set i (some (frz d))
  | _ => ρ
@[simp] theorem frzAt_some {d : D} (h : ρ[i]? = some (some d)) : frzAt i ρ = ρ.set i (some (frz d)) := by
  unfold frzAt; rw [h]
@[simp] theorem frzAt_none (h : ρ[i]? = some none) : frzAt i ρ = ρ := by
  unfold frzAt; rw [h]
@[simp] theorem p_Frz : WP Q (dFrz i f ρ) = WP ⟨fun ρ1 => Q.nx (frzAt i ρ1), Q.rt, Q.bk, Q.ct, Q.ex⟩ (f ρ) := by
  unfold dFrz
  rw [p_Seq]
  congr 2
  funext ρ1
  unfold frzAt
  cases e : ρ1[i]? with
  | none => simp
  | some o => cases o <;> simp
@[simp] theorem p_Fld {C x : Str} : WP Q (stFld C x i d ρ) = SO (ρ[i]?) (fun o => SO o fun y => (match y with
    | .n (.ins C' fs) true xs => (C' = C ∧ x ∉ fs ∧ xs.length < 900) ∧ Q.nx (ρ.set i (some (.n (.ins C (fs ++ [x])) true (xs ++ [d]))))
    | _ => False)) := by
  unfold stFld
  split
  · rename_i C' fs xs h
    rw [h]
    dsimp only [so_some]
    split
    · rename_i h; simp only [h, and_self, true_and, not_false_eq_true]; rfl
    · rename_i h; simp only [h, false_and]; rfl
  · rename_i h
    cases e : ρ[i]? with
    | none => rfl
    | some o =>
      cases o with
      | none => rfl
      | some d =>
        cases d with
        | a x => rfl
        | n k o xs =>
          cases k with
          | ins C' fs => cases o with
            | true => exact absurd e (h C' fs xs)
            | false => rfl
          | _ => rfl
@[simp] theorem p_For {src : DL.Env → Out (List D)} {g : D → DL.Env → Option DL.Env} : WP Q (dFor src g f ρ) = WO Q.ex (fun ds ρ1 => WP Q (forL g f ds ρ1)) (src ρ) := by
  unfold dFor; cases src ρ <;> rfl
/-- a loop, by what holds ahead of each turn -/
theorem wp_for {g : D → DL.Env → Option DL.Env} {ds : List D} (I : Nat → DL.Env → Prop) (h0 : I 0 ρ)
    (hs : ∀ i d ρ, ds[i]? = some d → I i ρ → SO (g d ρ) fun ρ1 => WP ⟨I (i + 1), Q.rt, Q.nx, I (i + 1), Q.ex⟩ (f ρ1)) (he : ∀ ρ, I ds.length ρ → Q.nx ρ) : WP Q (forL g f ds ρ) := by
  have key : ∀ (es : List D) (k : Nat) (ρ : DL.Env), (∀ i, es[i]? = ds[k + i]?) → k + es.length = ds.length → I k ρ → WP Q (forL g f es ρ) := by
    intro es
    induction es with
    | nil =>
      intro k ρ _ hl hI
      have : k = ds.length := by simpa using hl
      subst this
      exact he ρ hI
    | cons d es ih =>
      intro k ρ hd hl hI
      have h1 : ds[k]? = some d := by
        have := hd 0
        simpa using this.symm
      have h2 := hs k d ρ h1 hI
      have nxt : ∀ ρ2, I (k + 1) ρ2 → WP Q (forL g f es ρ2) := fun ρ2 hI2 => ih (k + 1) ρ2 (fun i => by
        have := hd (i + 1)
        rw [List.getElem?_cons_succ] at this
        rw [this]
        congr 1
        omega) (by simp at hl; omega) hI2
      unfold forL
      cases hg : g d ρ with
      | none => rw [hg] at h2; exact h2.elim
      | some ρ1 =>
        rw [hg] at h2
        dsimp only [so_some] at h2 ⊢
        cases hb : f ρ1 with
        | nx ρ2 => rw [hb] at h2; exact nxt ρ2 h2
        | ct ρ2 => rw [hb] at h2; exact nxt ρ2 h2
        | bk ρ2 => rw [hb] at h2; exact h2
        | rt d ρ2 => rw [hb] at h2; exact h2
        | ex e ρ2 => rw [hb] at h2; exact h2
        | st => rw [hb] at h2; exact h2
  exact key ds 0 ρ (fun i => by rw [Nat.zero_add]) (by omega) h0
end
theorem wf_fn {n : Nat} {kio : Option Nat} {body : DL.Env → Fl} {ds : List D} {E : Exn → Option D → Prop} {P : D → Option D → Prop} : WF E P (fnD n kio body ds) = WP ⟨fun ρ => P .non (ioOf kio ρ), fun d ρ => P d (ioOf kio ρ), fun _ => False, fun _ => False, fun e ρ => E e (ioOf kio ρ)⟩ (body (ds.map some ++ List.replicate (n - ds.length) none)) := by
  unfold fnD
  cases body (ds.map some ++ List.replicate (n - ds.length) none) <;> rfl
/-! ### operators -/
section
variable {i j : Int} {a b : Bool} {P : D → Prop}
@[simp] theorem o_add : SO (gAdd (.a (.int i)) (.a (.int j))) P = P (.a (.int (i + j))) := rfl
@[simp] theorem o_sub : SO (gSub (.a (.int i)) (.a (.int j))) P = P (.a (.int (i - j))) := rfl
@[simp] theorem o_mul : SO (gMul (.a (.int i)) (.a (.int j))) P = (mulOk i j = true ∧ P (.a (.int (i * j)))) := by
  unfold gMul gOr gMulI gII
  cases h : mulOk i j <;> simp [h, gRep]
@[simp] theorem o_fdiv : SO (gFdiv (.a (.int i)) (.a (.int j))) P = (divOk i j = true ∧ P (.a (.int (i / j)))) := by
  unfold gFdiv gII
  cases h : divOk i j <;> simp [h]
@[simp] theorem o_mod : SO (gMod (.a (.int i)) (.a (.int j))) P = (0 < j ∧ P (.a (.int (i % j)))) := by
  unfold gMod gII
  by_cases h : 0 < j <;> simp [h]
@[simp] theorem o_shl : SO (gShl (.a (.int i)) (.a (.int j))) P = (powOk i j = true ∧ P (.a (.int (i * 2 ^ j.toNat)))) := by
  unfold gShl gII
  cases h : powOk i j <;> simp [h]
@[simp] theorem o_shr : SO (gShr (.a (.int i)) (.a (.int j))) P = (0 ≤ j ∧ P (.a (.int (i / 2 ^ j.toNat)))) := by
  unfold gShr gII
  by_cases h : 0 ≤ j <;> simp [h]
@[simp] theorem o_and : SO (gAnd (.a (.int i)) (.a (.int j))) P = P (.a (.int (Builtin.bitAnd i j))) := rfl
@[simp] theorem o_or : SO (gOrB (.a (.int i)) (.a (.int j))) P = P (.a (.int (Builtin.bitOr i j))) := rfl
@[simp] theorem o_lt : SO (gLt (.a (.int i)) (.a (.int j))) P = P (.a (.bl (decide (i < j)))) := rfl
@[simp] theorem o_le : SO (gLe (.a (.int i)) (.a (.int j))) P = P (.a (.bl (decide (i ≤ j)))) := rfl
@[simp] theorem o_gt : SO (gGt (.a (.int i)) (.a (.int j))) P = P (.a (.bl (decide (j < i)))) := rfl
@[simp] theorem o_ge : SO (gGe (.a (.int i)) (.a (.int j))) P = P (.a (.bl (decide (j ≤ i)))) := rfl
@[simp] theorem o_eqI : SO (gEq (.a (.int i)) (.a (.int j))) P = P (.a (.bl (decide (i = j)))) := by
  show P (.a (.bl (decide (At.int i = At.int j)))) = _
  congr 3
  simp
@[simp] theorem o_neI : SO (gNe (.a (.int i)) (.a (.int j))) P = P (.a (.bl (!decide (i = j)))) := by
  show P (.a (.bl (!decide (At.int i = At.int j)))) = _
  congr 4
  simp
@[simp] theorem o_eqB : SO (gEq (.a (.bl a)) (.a (.bl b))) P = P (.a (.bl (decide (a = b)))) := by
  show P (.a (.bl (decide (At.bl a = At.bl b)))) = _
  congr 3
  simp
@[simp] theorem o_neB : SO (gNe (.a (.bl a)) (.a (.bl b))) P = P (.a (.bl (!decide (a = b)))) := by
  show P (.a (.bl (!decide (At.bl a = At.bl b)))) = _
  congr 4
  simp
@[simp] theorem o_abs : SO (gAbs (.a (.int i))) P = P (.a (.int (if i < 0 then -i else i))) := rfl
@[simp] theorem o_neg : SO (gNeg (.a (.int i))) P = P (.a (.int (-i))) := rfl
@[simp] theorem o_int : SO (gInt (.a (.int i))) P = P (.a (.int i)) := rfl
@[simp] theorem o_bits : SO (gBits (.a (.int i))) P = P (.a (.int (Builtin.Int.intBits i : Nat))) := rfl
@[simp] theorem o_lenL {o : Bool} {xs : List D} : SO (gLen (.n .lst o xs)) P = P (.a (.int xs.length)) := rfl
@[simp] theorem o_lenT {o : Bool} {xs : List D} : SO (gLen (.n .tup o xs)) P = P (.a (.int xs.length)) := rfl
@[simp] theorem o_tupT {o : Bool} {xs : List D} : SO (gTuple (.n .tup o xs)) P = P (.tup xs) := rfl
@[simp] theorem o_tupL {o : Bool} {xs : List D} : SO (gTuple (.n .lst o xs)) P = (isFL xs = true ∧ P (.tup xs)) := by
  unfold gTuple
  cases h : isFL xs <;> simp [h]
@[simp] theorem o_isi {T : String} {d : D} {t : String} (h : tyN d = some t) : SO (gIsi T d) P = P (.a (.bl (isiT t T))) := by
  unfold gIsi
  rw [h]; rfl
@[simp] theorem o_lrng : SO (gLRng (.a (.int i))) P = ((-4611686018427387904 ≤ i ∧ i ≤ 16777216) ∧ P (.lst true (intL 0 i.toNat))) := by
  unfold gLRng
  by_cases h : -4611686018427387904 ≤ i ∧ i ≤ 16777216 <;> simp [h]
end
@[simp] theorem isFL_nil : isFL [] = true := rfl
@[simp] theorem isFL_cons {x : D} {xs : List D} : isFL (x :: xs) = (isF x && isFL xs) := rfl
@[simp] theorem isF_a {x : At} : isF (.a x) = true := rfl
@[simp] theorem isF_n {k : Kd} {o : Bool} {xs : List D} : isF (.n k o xs) = (!o && isFL xs) := rfl
theorem isFL_all : ∀ {xs : List D}, isFL xs = true ↔ ∀ x ∈ xs, isF x = true
  | [] => by simp
  | x :: xs => by simp [isFL_all (xs := xs)]
@[simp] theorem isFL_map {α : Type} {f : α → D} {l : List α} (h : ∀ x, isF (f x) = true) : isFL (l.map f) = true := isFL_all.mpr fun x hx => by
  obtain ⟨y, _, e⟩ := List.mem_map.mp hx
  rw [← e]; exact h y
@[simp] theorem frzL_nil : frzL [] = [] := rfl
@[simp] theorem frzL_cons {x : D} {xs : List D} : frzL (x :: xs) = frz x :: frzL xs := rfl
@[simp] theorem frzL_map {α : Type} {f : α → D} {l : List α} (h : ∀ x, isF (f x) = true) : frzL (l.map f) = l.map f := frzL_isFL _ (isFL_map h)
@[simp] theorem frzL_ints {l : List Int} : frzL (l.map D.int) = l.map D.int := frzL_map fun _ => rfl
@[simp] theorem isFL_ints {l : List Int} : isFL (l.map D.int) = true := isFL_map fun _ => rfl
@[simp] theorem capv : cap = 1000000 := rfl
@[simp] theorem frz_a {x : At} : frz (.a x) = .a x := rfl
@[simp] theorem frz_n {k : Kd} {o : Bool} {xs : List D} : frz (.n k o xs) = .n k false (frzL xs) := rfl
@[simp] theorem agL_nil : agL [] = some [] := rfl
@[simp] theorem agL_cons {x : D} {xs : List Ag} : agL (.d x :: xs) = (agL xs).map (x :: ·) := rfl
@[simp] theorem agL1_s {i : Nat} {xs : List Ag} : agL1 (.s i :: xs) = (agL xs).map fun p => ([], i, p) := rfl
@[simp] theorem agL1_d {x : D} {xs : List Ag} : agL1 (.d x :: xs) = (agL1 xs).map fun p => (x :: p.1, p.2) := rfl
@[simp] theorem q_C {x : At} {ρ : DL.Env} : qC x ρ = some x := rfl
/-! ### exceptions -/
section
variable {Q : Ps} {ρ : DL.Env} {C f : Str} {ok : At → Bool} {e : Exn}
@[simp] theorem p_exr : WP Q (.ex e ρ) = Q.ex e ρ := rfl
@[simp] theorem p_Raise : WP Q (dRaise C ρ) = Q.ex ⟨C, []⟩ ρ := rfl
@[simp] theorem p_stRaise {x : At} : WP Q (stRaise C f ok (.a x) ρ) = (ok x = true ∧ Q.ex ⟨C, [(f, x)]⟩ ρ) := by
  unfold stRaise
  cases h : ok x <;> simp [h, WP]
@[simp] theorem p_Try {b : DL.Env → Fl} {hs : List Hd} : WP Q (dTry b hs ρ) = WP ⟨Q.nx, Q.rt, Q.bk, Q.ct, fun e ρ1 => WP Q (dCatch hs e ρ1)⟩ (b ρ) := by
  unfold dTry
  cases b ρ <;> rfl
@[simp] theorem p_catch0 : WP Q (dCatch [] e ρ) = Q.ex e ρ := rfl
theorem p_catch {m : List (Str × Bool)} {h : Exn → DL.Env → Fl} {r : List Hd} {b : Bool} (hl : m.lookup e.c = some b) : WP Q (dCatch ((C, m, h) :: r) e ρ) = if b = true then WP ⟨Q.nx, Q.rt, Q.bk, Q.ct, fun _ _ => False⟩ (h e ρ) else WP Q (dCatch r e ρ) := by
  conv => lhs; unfold dCatch
  rw [hl]
  cases b with
  | false => rfl
  | true =>
    dsimp only
    rw [if_pos rfl]
    cases h e ρ <;> rfl
@[simp] theorem p_hRet {i : Nat} {g : Exn → Option At} : WP Q (hRet i g e ρ) = SO (g e) fun x => i < ρ.length ∧ Q.rt (.a x) (ρ.set i none) := by
  unfold hRet
  cases g e with
  | none => rfl
  | some x =>
    dsimp only [so_some]
    split
    · rename_i h; simp [h]
    · rename_i h; simp [h, WP]
end
@[simp] theorem sF_one {C f : Str} {x : At} : sF C f ⟨C, [(f, x)]⟩ = some x := by simp [sF, List.lookup]
@[simp] theorem o_eqS {a b : Str} {P : D → Prop} : SO (gEq (.a (.str a)) (.a (.str b))) P = P (.a (.bl (decide (a = b)))) := by
  show P (.a (.bl (decide (At.str a = At.str b)))) = _
  congr 3
  simp
@[simp] theorem o_neS {a b : Str} {P : D → Prop} : SO (gNe (.a (.str a)) (.a (.str b))) P = P (.a (.bl (!decide (a = b)))) := by
  show P (.a (.bl (!decide (At.str a = At.str b)))) = _
  congr 4
  simp
@[simp] theorem o_isiA_ins {C C' : Str} {fs : List Str} {o : Bool} {xs : List D} {P : D → Prop} : SO (gIsiA C (.n (.ins C' fs) o xs)) P = (C' = C ∧ P (.a (.bl true))) := by
  unfold gIsiA
  by_cases h : C' = C <;> simp [h]
theorem o_isiA {C : Str} {d : D} {t : String} {P : D → Prop} (h : tyN d = some t) : SO (gIsiA C d) P = P (.a (.bl false)) := by
  cases d with
  | a x => unfold gIsiA; rw [h]; rfl
  | n k o xs =>
    cases k with
    | ins C' fs => cases h
    | _ => unfold gIsiA; rw [h]; rfl
section
variable {E : Exn → DL.Env → Prop} {P : D → DL.Env → Prop} {PL : List D → DL.Env → Prop} {fa fb : DL.Env → Out D} {ρ : DL.Env} {Q : Ps} {i : Nat}
def asLst (d : D) (P : Bool → List D → Prop) : Prop := match d with
  | .n .lst o xs => P o xs
  | _ => False
@[simp] theorem asLst_lst {o : Bool} {xs : List D} {P : Bool → List D → Prop} : asLst (.n .lst o xs) P = P o xs := rfl
@[simp] theorem w_IndexL : WO E P (dIndexL fa fb ρ) = WO E (fun d1 ρ1 => asLst d1 fun o xs => WO E (fun d2 ρ2 => SO (gIndexL (.n .lst o xs) d2) fun d => P d ρ2) (fb ρ1)) (fa ρ) := by
  unfold dIndexL
  cases fa ρ with
  | st => rfl
  | ex e ρ1 => rfl
  | ok d1 ρ1 =>
    cases d1 with
    | a x => rfl
    | n k o xs =>
      cases k with
      | lst =>
        dsimp only [wo_ok, asLst_lst]
        cases fb ρ1 with
        | st => rfl
        | ex e ρ2 => rfl
        | ok d2 ρ2 =>
          dsimp only [wo_ok]
          cases gIndexL (.n .lst o xs) d2 <;> rfl
      | _ => rfl
@[simp] theorem w_RngD : WO E PL (dRngD fa fb ρ) = WO E (fun d ρ1 => asI d fun i => WO E (fun d2 ρ2 => asI d2 fun j => ((-1000000 ≤ i ∧ i ≤ 1000000) ∧ -1000000 ≤ j ∧ j ≤ 1000000) ∧ PL (intsC i (-1) (i - j).toNat) ρ2) (fb ρ1)) (fa ρ) := by
  unfold dRngD
  cases fa ρ with
  | st => rfl
  | ex e ρ1 => rfl
  | ok d ρ1 =>
    cases d with
    | n _ _ _ => rfl
    | a x =>
      cases x with
      | int i =>
        dsimp only [wo_ok, asI_int]
        cases fb ρ1 with
        | st => rfl
        | ex e ρ2 => rfl
        | ok d2 ρ2 =>
          cases d2 with
          | n _ _ _ => rfl
          | a y =>
            cases y with
            | int j =>
              dsimp only [wo_ok, asI_int]
              split
              · rename_i h; simp [h]
              · rename_i h; simp only [h, false_and]; rfl
            | non => rfl
            | bl b => rfl
            | str s => rfl
      | non => rfl
      | bl b => rfl
      | str s => rfl
@[simp] theorem p_Aug {h : Int → Int → Int} : WP Q (dAug i h fa ρ) = SO (ρ[i]?) (fun o => SO o fun x => asI x fun a => WO Q.ex (fun d ρ1 => asI d fun b => i < ρ1.length ∧ Q.nx (ρ1.set i (some (.a (.int (h a b)))))) (fa ρ)) := by
  unfold dAug
  cases e : ρ[i]? with
  | none => rfl
  | some o =>
    cases o with
    | none => rfl
    | some d =>
      cases d with
      | n _ _ _ => rfl
      | a x =>
        cases x with
        | int a =>
          dsimp only [so_some, asI_int]
          cases fa ρ with
          | st => rfl
          | ex e ρ1 => rfl
          | ok d ρ1 =>
            cases d with
            | n _ _ _ => rfl
            | a y =>
              cases y with
              | int b =>
                dsimp only [wo_ok, asI_int]
                exact p_Set
              | non => rfl
              | bl b => rfl
              | str s => rfl
        | non => rfl
        | bl b => rfl
        | str s => rfl
end
@[simp] theorem o_lenO_lst {C : Str} {F : List D → FR} {o : Bool} {xs : List D} {P : D → Prop} : SO (gLenO C F (.n .lst o xs)) P = P (.a (.int xs.length)) := rfl
@[simp] theorem o_lenO_tup {C : Str} {F : List D → FR} {o : Bool} {xs : List D} {P : D → Prop} : SO (gLenO C F (.n .tup o xs)) P = P (.a (.int xs.length)) := rfl
theorem o_lenO {C : Str} {F : List D → FR} {fs : List Str} {xs : List D} {n : Nat} {io : Option D} {P : D → Prop} (hf : isFL xs = true) (h : F [.n (.ins C fs) false xs] = .rt (.a (.int (n : Int))) io) (hn : n < 1000000) : SO (gLenO C F (.n (.ins C fs) false xs)) P = P (.a (.int (n : Int))) := by
  unfold gLenO
  have h2 : (n : Int) < 1000000 := by omega
  simp [hf, h, h2]
@[simp] theorem s_tgP2 {g1 g2 : D → DL.Env → Option DL.Env} {o : Bool} {a b : D} {ρ : DL.Env} {P : DL.Env → Prop} : SO (tgP g1 g2 (.n .tup o [a, b]) ρ) P = SO (g1 a ρ) fun ρ1 => SO (g2 b ρ1) P := by
  rw [s_tgP]
  cases g1 a ρ <;> rfl
section
variable {E : Exn → DL.Env → Prop} {P : D → DL.Env → Prop} {fa fb : DL.Env → Out D} {ρ : DL.Env} {C : Str} {F : List D → FR}
@[simp] theorem w_BinO : WO E P (dBinO C F fa fb ρ) = WO E (fun d ρ1 => asIns d fun C1 fs xs => (C1 = C ∧ isFL xs = true) ∧ WO E (fun d2 ρ2 => asIns d2 fun C2 gs ys => (C2 = C ∧ isFL ys = true) ∧ WF (fun e _ => E e ρ2) (fun d _ => P d ρ2) (F [.n (.ins C1 fs) false xs, .n (.ins C2 gs) false ys])) (fb ρ1)) (fa ρ) := by
  unfold dBinO
  cases fa ρ with
  | st => rfl
  | ex e ρ1 => rfl
  | ok d ρ1 =>
    cases d with
    | a x => rfl
    | n k o xs =>
      cases k with
      | ins C1 fs =>
        cases o with
        | true => rfl
        | false =>
          dsimp only [wo_ok, asIns_ins]
          split
          · rename_i h
            simp only [h, and_self, true_and]
            cases fb ρ1 with
            | st => rfl
            | ex e ρ2 => rfl
            | ok d2 ρ2 =>
              cases d2 with
              | a x => rfl
              | n k o ys =>
                cases k with
                | ins C2 gs =>
                  cases o with
                  | true => rfl
                  | false =>
                    dsimp only [wo_ok, asIns_ins]
                    split
                    · rename_i h2
                      simp only [h2, and_self, true_and]
                      cases F _ <;> rfl
                    · rename_i h2; simp only [h2, false_and]; rfl
                | tup => rfl
                | lst => rfl
                | scr => rfl
                | dct ks => rfl
          · rename_i h; simp only [h, false_and]; rfl
      | tup => rfl
      | lst => rfl
      | scr => rfl
      | dct ks => rfl
@[simp] theorem w_NegO : WO E P (dNegO C F fa ρ) = WO E (fun d ρ1 => asIns d fun C1 fs xs => (C1 = C ∧ isFL xs = true) ∧ WF (fun e _ => E e ρ1) (fun d _ => P d ρ1) (F [.n (.ins C1 fs) false xs])) (fa ρ) := by
  unfold dNegO
  cases fa ρ with
  | st => rfl
  | ex e ρ1 => rfl
  | ok d ρ1 =>
    cases d with
    | a x => rfl
    | n k o xs =>
      cases k with
      | ins C1 fs =>
        cases o with
        | true => rfl
        | false =>
          dsimp only [wo_ok, asIns_ins]
          split
          · rename_i h
            simp only [h, and_self, true_and]
            cases F _ <;> rfl
          · rename_i h; simp only [h, false_and]; rfl
      | tup => rfl
      | lst => rfl
      | scr => rfl
      | dct ks => rfl
end
end DL
namespace DC
open PySem L2 DL
def B_law_state : DL.Env → Fl :=
  (dSeq (dBind (dC (.int 0)) (stSet 1))
  (dSeq (dBind (dC (.int 1)) (stSet 2))
  (dSeq (dFor (dIter (dFz (dSl (dVar 0) none (some (dC (.int 63)))))) (tg1 3) (dSeq (dBind (dOp2 gAdd (dOp2 gMul (dVar 1) (dC (.int 1000003))) (dU gAbs (dVar 3))) (stSet 1))
  (dBind (dOp2 gMod (dU gInt (dOp2 gAdd (dOp2 gMul (dVar 2) (dC (.int 48271))) (dVar 3))) (dC (.int 2147483647))) (stSet 2))))
  (dBind (dLst (dACons (dVar 1) (dACons (dVar 2) dANil))) fun d ρ => .rt d ρ))))
def F_law_state : List D → FR := fnD 4 none B_law_state
def B_law_take : DL.Env → Fl :=
  (dSeq (dIf (dB (dOp2 gGt (dIxV 0 (dC (.int 0))) (dC (.int 0)))) (dSeq (dBind (dOp2 gMod (dU gInt (dIxP (dPeek 0) (qC (.int 0)))) (dVar 1)) (stSet 2))
  (dSeq (dBind (dOp2 gFdiv (dIxV 0 (dC (.int 0))) (dVar 1)) (stSub 0 (dC (.int 0))))
  (dBind (dVar 2) fun d ρ => .rt d ρ))) dNext)
  (dSeq (dBind (dOp2 gMod (dU gInt (dOp2 gAdd (dOp2 gMul (dIxV 0 (dC (.int 1))) (dC (.int 48271))) (dC (.int 11)))) (dC (.int 2147483647))) (stSub 0 (dC (.int 1))))
  (dBind (dOp2 gMod (dU gInt (dOp2 gFdiv (dIxV 0 (dC (.int 1))) (dC (.int 7)))) (dVar 1)) fun d ρ => .rt d ρ)))
def F_law_take : List D → FR := fnD 3 (some 0) B_law_take
def B_law_shuffled : DL.Env → Fl :=
  (dSeq (dBind (dU gLRng (dVar 1)) (stSet 2))
  (dSeq (dBind (dLst dANil) (stSet 3))
  (dSeq (dFrz 3 (dFrz 2 (dFor (dRng1 (dVar 1)) (tg1 4) (dHas 3 (dBind (dPopAt 2 (dCallL 2 (some 0) F_law_take (dALent 0 (dACons (dU gLen (dPeek 2)) dANil)))) (stApp 3))))))
  (dBind (dU gTuple (dVar 3)) fun d ρ => .rt d ρ))))
def F_law_shuffled : List D → FR := fnD 5 (some 0) B_law_shuffled
def B_law_drawn : DL.Env → Fl :=
  (dSeq (dBind (dCallL 2 (some 0) F_law_take (dALent 0 (dACons (dOp2 gAdd (dVar 1) (dC (.int 1))) dANil))) (stSet 2))
  (dSeq (dBind (dCallL 2 (some 0) F_law_shuffled (dALent 0 (dACons (dVar 2) dANil))) (stSet 3))
  (dSeq (dBind (dLst dANil) (stSet 4))
  (dSeq (dFrz 4 (dFor (dRng1 (dVar 2)) (tg1 5) (dFor (dRng2 (dOp2 gAdd (dVar 5) (dC (.int 1))) (dVar 2)) (tg1 6) (dIf (dB (dOp2 gEq (dCallL 2 (some 0) F_law_take (dALent 0 (dACons (dC (.int 3)) dANil))) (dC (.int 0)))) (dHas 4 (dBind (dTup (dACons (dOp2 gIx (dVar 3) (dVar 5)) (dACons (dOp2 gIx (dVar 3) (dVar 6)) dANil))) (stApp 4))) dNext))))
  (dBind (dTup (dACons (dVar 2) (dACons (dVar 4) dANil))) fun d ρ => .rt d ρ)))))
def F_law_drawn : List D → FR := fnD 7 (some 0) B_law_drawn
def B_has : DL.Env → Fl :=
  (dBind (dOp2 gEq (dOp2 gAnd (dOp2 gShr (dVar 0) (dVar 1)) (dC (.int 1))) (dC (.int 1))) fun d ρ => .rt d ρ)
def F_has : List D → FR := fnD 2 none B_has
def B_u_closed : DL.Env → Fl :=
  (dSeq (dBind (dOp2 gMul (dLst (dACons (dC (.int 0)) dANil)) (dVar 0)) (stSet 2))
  (dSeq (dFor (dIter (dVar 1)) (tgT [3, 4]) (dBind (dOp2 gOrB (dIxV 2 (dVar 3)) (dOp2 gShl (dC (.int 1)) (dVar 4))) (stSub 2 (dVar 3))))
  (dSeq (dFrz 2 (dFor (dRng1 (dVar 0)) (tg1 4) (dFor (dRng1 (dVar 0)) (tg1 3) (dIf (dB (dCall 2 F_has (dACons (dIxV 2 (dVar 3)) (dACons (dVar 4) dANil)))) (dBind (dOp2 gOrB (dIxV 2 (dVar 3)) (dIxV 2 (dVar 4))) (stSub 2 (dVar 3))) dNext))))
  (dSeq (dFor (dRng1 (dVar 0)) (tg1 3) (dIf (dB (dCall 2 F_has (dACons (dOp2 gIx (dVar 2) (dVar 3)) (dACons (dVar 3) dANil)))) (dBind (dC (.str "cycle")) (stRaise "Refused" "reason" DL.okStr)) dNext))
  (dBind (dU gTuple (dVar 2)) fun d ρ => .rt d ρ)))))
def F_u_closed : List D → FR := fnD 5 none B_u_closed
def B_is_integer : DL.Env → Fl :=
  (dBind (dAndV (dU (gIsi "int") (dVar 0)) (dNotV (dU (gIsi "bool") (dVar 0)))) fun d ρ => .rt d ρ)
def F_is_integer : List D → FR := fnD 1 none B_is_integer
def B_u_checked_pairs : DL.Env → Fl :=
  (dSeq (dIf (dNotT (dB (dU (gIsi2 "list" "tuple") (dVar 1)))) (dRaise "Malformed") dNext)
  (dSeq (dBind (dLst dANil) (stSet 2))
  (dSeq (dFrz 2 (dFor (dIter (dVar 1)) (tg1 3) (dSeq (dIf (dOrT (dNotT (dB (dU (gIsi "tuple") (dVar 3)))) (dB (dOp2 gNe (dU gLen (dVar 3)) (dC (.int 2))))) (dRaise "Malformed") dNext)
  (dSeq (dFor (dIter (dVar 3)) (tg1 4) (dIf (dOrT (dNotT (dB (dCall 1 F_is_integer (dACons (dVar 4) dANil)))) (dOrT (dB (dOp2 gLt (dVar 4) (dC (.int 0)))) (dB (dOp2 gGe (dVar 4) (dVar 0))))) (dRaise "Malformed") dNext))
  (dHas 2 (dBind (dVar 3) (stApp 2)))))))
  (dBind (dVar 2) fun d ρ => .rt d ρ))))
def F_u_checked_pairs : List D → FR := fnD 5 none B_u_checked_pairs
def B_OrderU_initU : DL.Env → Fl :=
  (dSeq (dIf (dOrT (dNotT (dB (dCall 1 F_is_integer (dACons (dVar 1) dANil)))) (dB (dOp2 gLt (dVar 1) (dC (.int 0))))) (dRaise "Malformed") dNext)
  (dSeq (dIf (dB (dOp2 gGt (dVar 1) (dC (.int 10)))) (dBind (dC (.str "large")) (stRaise "Refused" "reason" DL.okStr)) dNext)
  (dSeq (dBind (dVar 1) (stFld "Order" "n" 0))
  (dBind (dCall 2 F_u_closed (dACons (dVar 1) (dACons (dCall 2 F_u_checked_pairs (dACons (dVar 1) (dACons (dVar 2) dANil))) dANil))) (stFld "Order" "above" 0)))))
def F_OrderU_initU : List D → FR := fnD 3 (some 0) B_OrderU_initU
def B_law_closed : DL.Env → Fl :=
  (dSeq (dBind (dLc [3] (dRng1 (dVar 0)) (tg1 3) dYes (dLc [4] (dRng1 (dVar 0)) (tg1 4) dYes (dC (.bl false)))) (stSet 2))
  (dSeq (dFor (dIter (dVar 1)) (tgT [3, 4]) (dBind (dC (.bl true)) (stSub2 2 (qVar 3) (qVar 4))))
  (dSeq (dFrz 2 (dFor (dRng1 (dVar 0)) (tg1 4) (dFor (dRng1 (dVar 0)) (tg1 3) (dFor (dRng1 (dVar 0)) (tg1 5) (dBind (dOrV (dDp (dIxP (dIxP (dPeek 2) (qVar 3)) (qVar 5))) (dAndV (dDp (dIxP (dIxP (dPeek 2) (qVar 3)) (qVar 4))) (dDp (dIxP (dIxP (dPeek 2) (qVar 4)) (qVar 5))))) (stSub2 2 (qVar 3) (qVar 5)))))))
  (dBind (dVar 2) fun d ρ => .rt d ρ))))
def F_law_closed : List D → FR := fnD 6 none B_law_closed
def B_law_place : DL.Env → Fl :=
  (dSeq (dBind (dC (.int 1)) (stSet 1))
  (dSeq (dFor (dRng1 (dVar 0)) (tg1 2) (dBind (dOp2 gMul (dVar 1) (dC (.int 2))) (stSet 1)))
  (dBind (dVar 1) fun d ρ => .rt d ρ)))
def F_law_place : List D → FR := fnD 3 none B_law_place
def B_members : DL.Env → Fl :=
  (dBind (dU gTuple (dLc [1] (dRng1 (dU gBits (dVar 0))) (tg1 1) (dB (dOp2 gEq (dOp2 gAnd (dOp2 gShr (dVar 0) (dVar 1)) (dC (.int 1))) (dC (.int 1)))) (dVar 1))) fun d ρ => .rt d ρ)
def F_members : List D → FR := fnD 2 none B_members
def B_Order_at_most : DL.Env → Fl :=
  (dBind (dOrV (dOp2 gEq (dVar 1) (dVar 2)) (dCall 2 F_has (dACons (dOp2 gIx (dU (gFld "above") (dVar 0)) (dVar 1)) (dACons (dVar 2) dANil)))) fun d ρ => .rt d ρ)
def F_Order_at_most : List D → FR := fnD 3 none B_Order_at_most
def B_Order_less : DL.Env → Fl :=
  (dBind (dCall 2 F_has (dACons (dOp2 gIx (dU (gFld "above") (dVar 0)) (dVar 1)) (dACons (dVar 2) dANil))) fun d ρ => .rt d ρ)
def F_Order_less : List D → FR := fnD 3 none B_Order_less
def B_Order_related : DL.Env → Fl :=
  (dBind (dOrV (dMeth "Order" "at_most" 2 F_Order_at_most (dVar 0) (dACons (dVar 1) (dACons (dVar 2) dANil))) (dMeth "Order" "less" 2 F_Order_less (dVar 0) (dACons (dVar 2) (dACons (dVar 1) dANil)))) fun d ρ => .rt d ρ)
def F_Order_related : List D → FR := fnD 3 none B_Order_related
def B_Order_is_chain : DL.Env → Fl :=
  (dSeq (dBind (dCall 1 F_members (dACons (dVar 1) dANil)) (stSet 2))
  (dBind (dOp2 gEq (dU gLen (dLc2 [3, 4] [4] (dIter (dVar 2)) (tg1 3) dYes (dIter (dVar 2)) (tg1 4) (dNotT (dB (dMeth "Order" "related" 2 F_Order_related (dVar 0) (dACons (dVar 3) (dACons (dVar 4) dANil))))) (dC (.int 1)))) (dC (.int 0))) fun d ρ => .rt d ρ))
def F_Order_is_chain : List D → FR := fnD 5 none B_Order_is_chain
def B_Order_is_antichain : DL.Env → Fl :=
  (dBind (dOp2 gEq (dU gLen (dLc [2] (dIter (dCall 1 F_members (dACons (dVar 1) dANil))) (tg1 2) (dB (dOp2 gNe (dOp2 gAnd (dOp2 gIx (dU (gFld "above") (dVar 0)) (dVar 2)) (dVar 1)) (dC (.int 0)))) (dVar 2))) (dC (.int 0))) fun d ρ => .rt d ρ)
def F_Order_is_antichain : List D → FR := fnD 3 none B_Order_is_antichain
def B_Order_pairs : DL.Env → Fl :=
  (dSeq (dBind (dLst dANil) (stSet 1))
  (dSeq (dFrz 1 (dFor (dRng1 (dU (gFld "n") (dVar 0))) (tg1 2) (dFor (dIter (dCall 1 F_members (dACons (dOp2 gIx (dU (gFld "above") (dVar 0)) (dVar 2)) dANil))) (tg1 3) (dHas 1 (dBind (dTup (dACons (dVar 2) (dACons (dVar 3) dANil))) (stApp 1))))))
  (dBind (dU gTuple (dVar 1)) fun d ρ => .rt d ρ)))
def F_Order_pairs : List D → FR := fnD 4 none B_Order_pairs
def B_OrderU_eqU : DL.Env → Fl :=
  (dBind (dAndV (dU (gIsiA "Order") (dVar 1)) (dAndV (dOp2 gEq (dU (gFld "n") (dVar 0)) (dU (gFld "n") (dVar 1))) (dOp2 gEq (dU (gFld "above") (dVar 0)) (dU (gFld "above") (dVar 1))))) fun d ρ => .rt d ρ)
def F_OrderU_eqU : List D → FR := fnD 2 none B_OrderU_eqU
def B_set_of : DL.Env → Fl :=
  (dSeq (dBind (dC (.int 0)) (stSet 1))
  (dSeq (dFor (dIter (dVar 0)) (tg1 2) (dBind (dOp2 gOrB (dVar 1) (dOp2 gShl (dC (.int 1)) (dVar 2))) (stSet 1)))
  (dBind (dVar 1) fun d ρ => .rt d ρ)))
def F_set_of : List D → FR := fnD 3 none B_set_of
def B_Order_below : DL.Env → Fl :=
  (dBind (dU gTuple (dLc [1] (dRng1 (dU (gFld "n") (dVar 0))) (tg1 1) dYes (dCall 1 F_set_of (dACons (dLc [2] (dRng1 (dU (gFld "n") (dVar 0))) (tg1 2) (dB (dCall 2 F_has (dACons (dOp2 gIx (dU (gFld "above") (dVar 0)) (dVar 2)) (dACons (dVar 1) dANil)))) (dVar 2)) dANil)))) fun d ρ => .rt d ρ)
def F_Order_below : List D → FR := fnD 3 none B_Order_below
def B_law_bits : DL.Env → Fl :=
  (dSeq (dBind (dC (.int 0)) (stSet 1))
  (dSeq (dFor (dIter (dVar 0)) (tg1 2) (dBind (dOp2 gAdd (dVar 1) (dCall 1 F_law_place (dACons (dVar 2) dANil))) (stSet 1)))
  (dBind (dVar 1) fun d ρ => .rt d ρ)))
def F_law_bits : List D → FR := fnD 3 none B_law_bits
def B_law_above : DL.Env → Fl :=
  (dSeq (dBind (dU gLen (dVar 0)) (stSet 1))
  (dBind (dU gTuple (dLc [2] (dRng1 (dVar 1)) (tg1 2) dYes (dCall 1 F_law_bits (dACons (dLc [3] (dRng1 (dVar 1)) (tg1 3) (dB (dOp2 gIx (dOp2 gIx (dVar 0) (dVar 2)) (dVar 3))) (dVar 3)) dANil)))) fun d ρ => .rt d ρ))
def F_law_above : List D → FR := fnD 4 none B_law_above
def B_Order_covers : DL.Env → Fl :=
  (dSeq (dBind (dLst dANil) (stSet 1))
  (dSeq (dFrz 1 (dFor (dRng1 (dU (gFld "n") (dVar 0))) (tg1 2) (dSeq (dBind (dC (.int 0)) (stSet 3))
  (dSeq (dFor (dIter (dCall 1 F_members (dACons (dOp2 gIx (dU (gFld "above") (dVar 0)) (dVar 2)) dANil))) (tg1 4) (dBind (dOp2 gOrB (dVar 3) (dOp2 gIx (dU (gFld "above") (dVar 0)) (dVar 4))) (stSet 3)))
  (dFor (dIter (dCall 1 F_members (dACons (dOp2 gIx (dU (gFld "above") (dVar 0)) (dVar 2)) dANil))) (tg1 4) (dIf (dNotT (dB (dCall 2 F_has (dACons (dVar 3) (dACons (dVar 4) dANil))))) (dHas 1 (dBind (dTup (dACons (dVar 2) (dACons (dVar 4) dANil))) (stApp 1))) dNext))))))
  (dBind (dU gTuple (dVar 1)) fun d ρ => .rt d ρ)))
def F_Order_covers : List D → FR := fnD 5 none B_Order_covers
def B_Order_minimal : DL.Env → Fl :=
  (dSeq (dBind (dMeth "Order" "below" 0 F_Order_below (dVar 0) dANil) (stSet 1))
  (dBind (dCall 1 F_set_of (dACons (dLc [2] (dRng1 (dU (gFld "n") (dVar 0))) (tg1 2) (dB (dOp2 gEq (dOp2 gIx (dVar 1) (dVar 2)) (dC (.int 0)))) (dVar 2)) dANil)) fun d ρ => .rt d ρ))
def F_Order_minimal : List D → FR := fnD 3 none B_Order_minimal
def B_Order_maximal : DL.Env → Fl :=
  (dBind (dCall 1 F_set_of (dACons (dLc [1] (dRng1 (dU (gFld "n") (dVar 0))) (tg1 1) (dB (dOp2 gEq (dOp2 gIx (dU (gFld "above") (dVar 0)) (dVar 1)) (dC (.int 0)))) (dVar 1)) dANil)) fun d ρ => .rt d ρ)
def F_Order_maximal : List D → FR := fnD 2 none B_Order_maximal
def B_law_numbers : DL.Env → Fl :=
  (dSeq (dBind (dLst dANil) (stSet 1))
  (dSeq (dFor (dRng1 (dOp2 gMin2 (dU gLen (dVar 0)) (dC (.int 63)))) (tg1 2) (dSeq (dBind (dU gAbs (dOp2 gIx (dVar 0) (dVar 2))) (stSet 3))
  (dIf (dB (dOp2 gGe (dVar 3) (dOp2 gPow (dC (.int 10)) (dC (.int 18))))) (dFor (dRng1 (dC (.int 60))) (tg1 4) (dIf (dB (dOp2 gGt (dVar 3) (dC (.int 0)))) (dSeq (dHas 1 (dBind (dOp2 gMod (dVar 3) (dC (.int 1009))) (stApp 1)))
  (dBind (dOp2 gFdiv (dVar 3) (dC (.int 1009))) (stSet 3))) dNext)) (dFor (dRng1 (dC (.int 5))) (tg1 5) (dSeq (dBind (dOp2 gMod (dOp2 gAdd (dOp2 gAdd (dOp2 gMul (dVar 3) (dC (.int 48271))) (dOp2 gMul (dC (.int 69621)) (dOp2 gAdd (dVar 5) (dVar 2)))) (dC (.int 11))) (dC (.int 2147483647))) (stSet 3))
  (dSeq (dBind (dOp2 gMod (dOp2 gAdd (dOp2 gMul (dVar 3) (dC (.int 16807))) (dOp2 gFdiv (dVar 3) (dC (.int 65536)))) (dC (.int 2147483629))) (stSet 6))
  (dHas 1 (dBind (dOp2 gMod (dVar 6) (dC (.int 1009))) (stApp 1)))))))))
  (dRetMv 1)))
def F_law_numbers : List D → FR := fnD 7 none B_law_numbers
def B_law_next : DL.Env → Fl :=
  (dSeq (dIf (dB (dOp2 gEq (dU gLen (dPeek 0)) (dC (.int 0)))) (dBind (dC (.int 0)) fun d ρ => .rt d ρ) dNext)
  (dBind (dOp2 gMod (dPopAt 0 (dC (.int 0))) (dVar 1)) fun d ρ => .rt d ρ))
def F_law_next : List D → FR := fnD 2 (some 0) B_law_next
def B_law_order : DL.Env → Fl :=
  (dSeq (dBind (dCallL 2 (some 0) F_law_next (dALent 0 (dACons (dOp2 gAdd (dVar 1) (dC (.int 1))) dANil))) (stSet 2))
  (dSeq (dBind (dLst dANil) (stSet 3))
  (dSeq (dBind (dLc [10] (dRng1 (dVar 2)) (tg1 10) dYes (dVar 10)) (stSet 4))
  (dSeq (dFrz 4 (dFrz 3 (dFor (dRng1 (dVar 2)) (tg1 5) (dHas 3 (dBind (dPopAt 4 (dCallL 2 (some 0) F_law_next (dALent 0 (dACons (dU gLen (dPeek 4)) dANil)))) (stApp 3))))))
  (dSeq (dBind (dOp2 gAdd (dC (.int 2)) (dCallL 2 (some 0) F_law_next (dALent 0 (dACons (dC (.int 3)) dANil)))) (stSet 6))
  (dSeq (dBind (dLst dANil) (stSet 7))
  (dSeq (dFrz 7 (dFor (dRng1 (dVar 2)) (tg1 8) (dFor (dRng1 (dVar 8)) (tg1 9) (dIf (dB (dOp2 gEq (dCallL 2 (some 0) F_law_next (dALent 0 (dACons (dVar 6) dANil))) (dC (.int 0)))) (dHas 7 (dBind (dTup (dACons (dOp2 gIx (dVar 3) (dVar 9)) (dACons (dOp2 gIx (dVar 3) (dVar 8)) dANil))) (stApp 7))) dNext))))
  (dBind (dMake "Order" 2 F_OrderU_initU (dACons (dVar 2) (dACons (dVar 7) dANil))) fun d ρ => .rt d ρ))))))))
def F_law_order : List D → FR := fnD 11 (some 0) B_law_order
def B_Order_size : DL.Env → Fl :=
  (dBind (dU (gFld "n") (dVar 0)) fun d ρ => .rt d ρ)
def F_Order_size : List D → FR := fnD 1 none B_Order_size
def B_law_table : DL.Env → Fl :=
  (dSeq (dBind (dMeth "Order" "size" 0 F_Order_size (dVar 0) dANil) (stSet 1))
  (dSeq (dBind (dLc [3] (dRng1 (dVar 1)) (tg1 3) dYes (dLc [4] (dRng1 (dVar 1)) (tg1 4) dYes (dC (.bl false)))) (stSet 2))
  (dSeq (dFrz 2 (dFor (dIter (dMeth "Order" "pairs" 0 F_Order_pairs (dVar 0) dANil)) (tgT [3, 4]) (dBind (dC (.bl true)) (stSub2 2 (qVar 3) (qVar 4)))))
  (dBind (dVar 2) fun d ρ => .rt d ρ))))
def F_law_table : List D → FR := fnD 5 none B_law_table
def B_is_points : DL.Env → Fl :=
  (dSeq (dIf (dNotT (dB (dU (gIsi "tuple") (dVar 1)))) (dBind (dC (.bl false)) fun d ρ => .rt d ρ) dNext)
  (dSeq (dBind (dU gNeg (dC (.int 1))) (stSet 2))
  (dSeq (dFor (dIter (dVar 1)) (tg1 3) (dSeq (dIf (dOrT (dNotT (dB (dCall 1 F_is_integer (dACons (dVar 3) dANil)))) (dOrT (dB (dOp2 gLe (dVar 3) (dVar 2))) (dB (dOp2 gGe (dVar 3) (dMeth "Order" "size" 0 F_Order_size (dVar 0) dANil))))) (dBind (dC (.bl false)) fun d ρ => .rt d ρ) dNext)
  (dBind (dVar 3) (stSet 2))))
  (dBind (dC (.bl true)) fun d ρ => .rt d ρ))))
def F_is_points : List D → FR := fnD 4 none B_is_points
def B_is_chain : DL.Env → Fl :=
  (dBind (dAndV (dCall 2 F_is_points (dACons (dVar 0) (dACons (dVar 1) dANil))) (dMeth "Order" "is_chain" 1 F_Order_is_chain (dVar 0) (dACons (dCall 1 F_set_of (dACons (dVar 1) dANil)) dANil))) fun d ρ => .rt d ρ)
def F_is_chain : List D → FR := fnD 2 none B_is_chain
def B_law_fits : DL.Env → Fl :=
  (dSeq (dFor (dIter (dVar 1)) (tg1 3) (dFor (dIter (dVar 1)) (tg1 4) (dIf (dAndT (dB (dOp2 gNe (dVar 3) (dVar 4))) (dB (dOp2 gNe (dOrV (dOp2 gIx (dOp2 gIx (dVar 0) (dVar 3)) (dVar 4)) (dOp2 gIx (dOp2 gIx (dVar 0) (dVar 4)) (dVar 3))) (dVar 2)))) (dBind (dC (.bl false)) fun d ρ => .rt d ρ) dNext)))
  (dBind (dC (.bl true)) fun d ρ => .rt d ρ))
def F_law_fits : List D → FR := fnD 5 none B_law_fits
def B_is_antichain : DL.Env → Fl :=
  (dBind (dAndV (dCall 2 F_is_points (dACons (dVar 0) (dACons (dVar 1) dANil))) (dMeth "Order" "is_antichain" 1 F_Order_is_antichain (dVar 0) (dACons (dCall 1 F_set_of (dACons (dVar 1) dANil)) dANil))) fun d ρ => .rt d ρ)
def F_is_antichain : List D → FR := fnD 2 none B_is_antichain
def B_covers_once : DL.Env → Fl :=
  (dSeq (dIf (dNotT (dB (dU (gIsi "tuple") (dVar 1)))) (dBind (dC (.bl false)) fun d ρ => .rt d ρ) dNext)
  (dSeq (dBind (dFz (dLst dANil)) (stSet 2))
  (dSeq (dFor (dIter (dVar 1)) (tg1 3) (dSeq (dIf (dOrT (dNotT (dB (dCall 2 F_is_points (dACons (dVar 0) (dACons (dVar 3) dANil))))) (dB (dOp2 gEq (dU gLen (dVar 3)) (dC (.int 0))))) (dBind (dC (.bl false)) fun d ρ => .rt d ρ) dNext)
  (dBind (dFz (dOp2 gAdd (dVar 2) (dU gList (dVar 3)))) (stSet 2))))
  (dBind (dOp2 gEq (dU gSortI (dVar 2)) (dU gLRng (dMeth "Order" "size" 0 F_Order_size (dVar 0) dANil))) fun d ρ => .rt d ρ))))
def F_covers_once : List D → FR := fnD 4 none B_covers_once
def B_is_chain_parting : DL.Env → Fl :=
  (dBind (dAndV (dCall 2 F_covers_once (dACons (dVar 0) (dACons (dVar 1) dANil))) (dU gAll (dLc [2] (dIter (dVar 1)) (tg1 2) dYes (dCall 2 F_is_chain (dACons (dVar 0) (dACons (dVar 2) dANil)))))) fun d ρ => .rt d ρ)
def F_is_chain_parting : List D → FR := fnD 3 none B_is_chain_parting
def B_is_antichain_parting : DL.Env → Fl :=
  (dBind (dAndV (dCall 2 F_covers_once (dACons (dVar 0) (dACons (dVar 1) dANil))) (dU gAll (dLc [2] (dIter (dVar 1)) (tg1 2) dYes (dCall 2 F_is_antichain (dACons (dVar 0) (dACons (dVar 2) dANil)))))) fun d ρ => .rt d ρ)
def F_is_antichain_parting : List D → FR := fnD 3 none B_is_antichain_parting
def B_law_told : DL.Env → Fl :=
  (dSeq (dTry (dBind (dFz (dMake "Order" 2 F_OrderU_initU (dACons (dVar 0) (dACons (dVar 1) dANil)))) (stSet 2)) ((("Malformed" : Str), ([("Malformed", true), ("Refused", false)] : List (Str × Bool)), fun _ => (dBind (dC (.str "malformed")) fun d ρ => .rt d ρ)) :: ((("Refused" : Str), ([("Malformed", false), ("Refused", true)] : List (Str × Bool)), hRet 3 (sF "Refused" "reason")) :: [])))
  (dBind (dVar 2) fun d ρ => .rt d ρ))
def F_law_told : List D → FR := fnD 4 none B_law_told
def B_OrderU_lenU : DL.Env → Fl :=
  (dBind (dU gLen (dU (gFld "above") (dVar 0))) fun d ρ => .rt d ρ)
def F_OrderU_lenU : List D → FR := fnD 1 none B_OrderU_lenU
def B_u_limited : DL.Env → Fl :=
  (dSeq (dIf (dB (dOp2 gGt (dVar 0) (dC (.int 10)))) (dBind (dC (.str "large")) (stRaise "Refused" "reason" DL.okStr)) dNext)
  (dBind (dVar 0) fun d ρ => .rt d ρ))
def F_u_limited : List D → FR := fnD 1 none B_u_limited
def B_u_number : DL.Env → Fl :=
  (dSeq (dIf (dOrT (dNotT (dB (dCall 1 F_is_integer (dACons (dVar 0) dANil)))) (dB (dOp2 gLt (dVar 0) (dC (.int 0))))) (dRaise "Malformed") dNext)
  (dBind (dCall 1 F_u_limited (dACons (dVar 0) dANil)) fun d ρ => .rt d ρ))
def F_u_number : List D → FR := fnD 1 none B_u_number
def B_antichain : DL.Env → Fl :=
  (dBind (dMake "Order" 2 F_OrderU_initU (dACons (dCall 1 F_u_number (dACons (dVar 0) dANil)) (dACons (dLst dANil) dANil))) fun d ρ => .rt d ρ)
def F_antichain : List D → FR := fnD 1 none B_antichain
def B_law_same : DL.Env → Fl :=
  (dBind (dAndV (dU (gIsiA "Order") (dVar 0)) (dAndV (dOp2 gEq (dU (gFld "n") (dVar 0)) (dU gLen (dVar 1))) (dOp2 gEq (dU (gFld "above") (dVar 0)) (dCall 1 F_law_above (dACons (dVar 1) dANil))))) fun d ρ => .rt d ρ)
def F_law_same : List D → FR := fnD 2 none B_law_same
def B_chain : DL.Env → Fl :=
  (dBind (dMake "Order" 2 F_OrderU_initU (dACons (dCall 1 F_u_number (dACons (dVar 0) dANil)) (dACons (dLc [1] (dRng2 (dC (.int 1)) (dVar 0)) (tg1 1) dYes (dTup (dACons (dOp2 gSub (dVar 1) (dC (.int 1))) (dACons (dVar 1) dANil)))) dANil))) fun d ρ => .rt d ρ)
def F_chain : List D → FR := fnD 2 none B_chain
def B_u_moved : DL.Env → Fl :=
  (dBind (dLc [2, 3] (dIter (dMeth "Order" "pairs" 0 F_Order_pairs (dVar 0) dANil)) (tgT [2, 3]) dYes (dTup (dACons (dOp2 gAdd (dVar 2) (dVar 1)) (dACons (dOp2 gAdd (dVar 3) (dVar 1)) dANil)))) fun d ρ => .rt d ρ)
def F_u_moved : List D → FR := fnD 4 none B_u_moved
def B_parallel : DL.Env → Fl :=
  (dBind (dMake "Order" 2 F_OrderU_initU (dACons (dCall 1 F_u_limited (dACons (dOp2 gAdd (dU (gLenO "Order" F_OrderU_lenU) (dVar 0)) (dU (gLenO "Order" F_OrderU_lenU) (dVar 1))) dANil)) (dACons (dOp2 gAdd (dU gList (dMeth "Order" "pairs" 0 F_Order_pairs (dVar 0) dANil)) (dCall 2 F_u_moved (dACons (dVar 1) (dACons (dU (gLenO "Order" F_OrderU_lenU) (dVar 0)) dANil)))) dANil))) fun d ρ => .rt d ρ)
def F_parallel : List D → FR := fnD 2 none B_parallel
def B_lexicographic_sum : DL.Env → Fl :=
  (dSeq (dIf (dOrT (dNotT (dB (dU (gIsi2 "list" "tuple") (dVar 1)))) (dB (dOp2 gNe (dU gLen (dVar 1)) (dU (gLenO "Order" F_OrderU_lenU) (dVar 0))))) (dRaise "Malformed") dNext)
  (dSeq (dBind (dLst dANil) (stSet 2))
  (dSeq (dBind (dC (.int 0)) (stSet 3))
  (dSeq (dFrz 2 (dFor (dIter (dVar 1)) (tg1 4) (dSeq (dHas 2 (dBind (dVar 3) (stApp 2)))
  (dBind (dOp2 gAdd (dVar 3) (dU (gLenO "Order" F_OrderU_lenU) (dVar 4))) (stSet 3)))))
  (dSeq (dBind (dLst dANil) (stSet 5))
  (dSeq (dFor (dRng1 (dU (gLenO "Order" F_OrderU_lenU) (dVar 0))) (tg1 6) (dHas 5 (dBind (dCall 2 F_u_moved (dACons (dOp2 gIx (dVar 1) (dVar 6)) (dACons (dOp2 gIx (dVar 2) (dVar 6)) dANil))) (stExt 5))))
  (dSeq (dFrz 5 (dFor (dIter (dMeth "Order" "pairs" 0 F_Order_pairs (dVar 0) dANil)) (tgT [6, 7]) (dFor (dRng1 (dU (gLenO "Order" F_OrderU_lenU) (dOp2 gIx (dVar 1) (dVar 6)))) (tg1 8) (dFor (dRng1 (dU (gLenO "Order" F_OrderU_lenU) (dOp2 gIx (dVar 1) (dVar 7)))) (tg1 9) (dHas 5 (dBind (dTup (dACons (dOp2 gAdd (dOp2 gIx (dVar 2) (dVar 6)) (dVar 8)) (dACons (dOp2 gAdd (dOp2 gIx (dVar 2) (dVar 7)) (dVar 9)) dANil))) (stApp 5)))))))
  (dBind (dMake "Order" 2 F_OrderU_initU (dACons (dCall 1 F_u_limited (dACons (dVar 3) dANil)) (dACons (dVar 5) dANil))) fun d ρ => .rt d ρ))))))))
def F_lexicographic_sum : List D → FR := fnD 10 none B_lexicographic_sum
def B_ordinal : DL.Env → Fl :=
  (dBind (dCall 2 F_lexicographic_sum (dACons (dCall 1 F_chain (dACons (dC (.int 2)) dANil)) (dACons (dTup (dACons (dVar 0) (dACons (dVar 1) dANil))) dANil))) fun d ρ => .rt d ρ)
def F_ordinal : List D → FR := fnD 2 none B_ordinal
def B_product : DL.Env → Fl :=
  (dSeq (dBind (dU (gLenO "Order" F_OrderU_lenU) (dVar 1)) (stSet 2))
  (dSeq (dBind (dCall 1 F_u_limited (dACons (dOp2 gMul (dU (gLenO "Order" F_OrderU_lenU) (dVar 0)) (dVar 2)) dANil)) (stSet 3))
  (dSeq (dBind (dLst dANil) (stSet 4))
  (dSeq (dFrz 4 (dFor (dRng1 (dVar 3)) (tg1 5) (dFor (dRng1 (dVar 3)) (tg1 6) (dIf (dAndT (dB (dOp2 gNe (dVar 5) (dVar 6))) (dAndT (dB (dMeth "Order" "at_most" 2 F_Order_at_most (dVar 0) (dACons (dOp2 gFdiv (dVar 5) (dVar 2)) (dACons (dOp2 gFdiv (dVar 6) (dVar 2)) dANil)))) (dB (dMeth "Order" "at_most" 2 F_Order_at_most (dVar 1) (dACons (dOp2 gMod (dVar 5) (dVar 2)) (dACons (dOp2 gMod (dVar 6) (dVar 2)) dANil)))))) (dHas 4 (dBind (dTup (dACons (dVar 5) (dACons (dVar 6) dANil))) (stApp 4))) dNext))))
  (dBind (dMake "Order" 2 F_OrderU_initU (dACons (dVar 3) (dACons (dVar 4) dANil))) fun d ρ => .rt d ρ)))))
def F_product : List D → FR := fnD 7 none B_product
def B_lexicographic : DL.Env → Fl :=
  (dBind (dCall 2 F_lexicographic_sum (dACons (dVar 0) (dACons (dOp2 gMul (dLst (dACons (dVar 1) dANil)) (dU (gLenO "Order" F_OrderU_lenU) (dVar 0))) dANil))) fun d ρ => .rt d ρ)
def F_lexicographic : List D → FR := fnD 2 none B_lexicographic
def B_law_refused : DL.Env → Fl :=
  (dSeq (dTry (dIf (dB (dOp2 gEq (dVar 2) (dC (.int 0)))) (dBind (dCall 2 F_product (dACons (dVar 0) (dACons (dVar 1) dANil))) fun _ ρ => .nx ρ) (dBind (dCall 2 F_lexicographic (dACons (dVar 0) (dACons (dVar 1) dANil))) fun _ ρ => .nx ρ)) ((("Refused" : Str), ([("Malformed", false), ("Refused", true)] : List (Str × Bool)), hRet 3 (sOp gEqA (sF "Refused" "reason") (sC (.str "large")))) :: []))
  (dBind (dC (.bl false)) fun d ρ => .rt d ρ))
def F_law_refused : List D → FR := fnD 4 none B_law_refused
def B_common_part : DL.Env → Fl :=
  (dSeq (dIf (dOrT (dNotT (dB (dU (gIsi2 "list" "tuple") (dVar 0)))) (dB (dOp2 gEq (dU gLen (dVar 0)) (dC (.int 0))))) (dRaise "Malformed") dNext)
  (dSeq (dBind (dOp2 gIx (dVar 0) (dC (.int 0))) (stSet 1))
  (dSeq (dBind (dFz (dU gList (dMeth "Order" "pairs" 0 F_Order_pairs (dVar 1) dANil))) (stSet 2))
  (dSeq (dFor (dIter (dVar 0)) (tg1 3) (dSeq (dIf (dB (dOp2 gNe (dU (gLenO "Order" F_OrderU_lenU) (dVar 3)) (dU (gLenO "Order" F_OrderU_lenU) (dVar 1)))) (dRaise "Malformed") dNext)
  (dFrz 2 (dBind (dLc [4, 5] (dIter (dVar 2)) (tgT [4, 5]) (dB (dMeth "Order" "less" 2 F_Order_less (dVar 3) (dACons (dVar 4) (dACons (dVar 5) dANil)))) (dTup (dACons (dVar 4) (dACons (dVar 5) dANil)))) (stSet 2)))))
  (dBind (dMake "Order" 2 F_OrderU_initU (dACons (dU (gLenO "Order" F_OrderU_lenU) (dVar 1)) (dACons (dVar 2) dANil))) fun d ρ => .rt d ρ)))))
def F_common_part : List D → FR := fnD 6 none B_common_part
def B_united : DL.Env → Fl :=
  (dSeq (dIf (dB (dOp2 gNe (dU (gLenO "Order" F_OrderU_lenU) (dVar 0)) (dU (gLenO "Order" F_OrderU_lenU) (dVar 1)))) (dRaise "Malformed") dNext)
  (dBind (dMake "Order" 2 F_OrderU_initU (dACons (dU (gLenO "Order" F_OrderU_lenU) (dVar 0)) (dACons (dOp2 gAdd (dMeth "Order" "pairs" 0 F_Order_pairs (dVar 0) dANil) (dMeth "Order" "pairs" 0 F_Order_pairs (dVar 1) dANil)) dANil))) fun d ρ => .rt d ρ))
def F_united : List D → FR := fnD 2 none B_united
def B_law_pairs : DL.Env → Fl :=
  (dSeq (dBind (dCallL 2 (some 0) F_law_shuffled (dALent 0 (dACons (dVar 1) dANil))) (stSet 2))
  (dSeq (dBind (dLst dANil) (stSet 3))
  (dSeq (dFrz 3 (dFor (dRng1 (dVar 1)) (tg1 4) (dFor (dRng2 (dOp2 gAdd (dVar 4) (dC (.int 1))) (dVar 1)) (tg1 5) (dIf (dB (dOp2 gEq (dCallL 2 (some 0) F_law_take (dALent 0 (dACons (dC (.int 2)) dANil))) (dC (.int 0)))) (dHas 3 (dBind (dTup (dACons (dOp2 gIx (dVar 2) (dVar 4)) (dACons (dOp2 gIx (dVar 2) (dVar 5)) dANil))) (stApp 3))) dNext))))
  (dBind (dVar 3) fun d ρ => .rt d ρ))))
def F_law_pairs : List D → FR := fnD 6 (some 0) B_law_pairs
def B_is_part : DL.Env → Fl :=
  (dBind (dOp2 gEq (dOp2 gAnd (dVar 0) (dVar 1)) (dVar 0)) fun d ρ => .rt d ρ)
def F_is_part : List D → FR := fnD 2 none B_is_part
def B_keeps : DL.Env → Fl :=
  (dSeq (dIf (dB (dOp2 gNe (dU (gLenO "Order" F_OrderU_lenU) (dVar 0)) (dU (gLenO "Order" F_OrderU_lenU) (dVar 1)))) (dBind (dC (.bl false)) fun d ρ => .rt d ρ) dNext)
  (dBind (dOp2 gEq (dU gLen (dLc [2] (dRng1 (dU (gLenO "Order" F_OrderU_lenU) (dVar 0))) (tg1 2) (dNotT (dB (dCall 2 F_is_part (dACons (dOp2 gIx (dU (gFld "above") (dVar 1)) (dVar 2)) (dACons (dOp2 gIx (dU (gFld "above") (dVar 0)) (dVar 2)) dANil))))) (dVar 2))) (dC (.int 0))) fun d ρ => .rt d ρ))
def F_keeps : List D → FR := fnD 3 none B_keeps
def B_by_inclusion : DL.Env → Fl :=
  (dSeq (dIf (dNotT (dB (dU (gIsi2 "list" "tuple") (dVar 0)))) (dRaise "Malformed") dNext)
  (dSeq (dFor (dIter (dVar 0)) (tg1 1) (dIf (dOrT (dNotT (dB (dCall 1 F_is_integer (dACons (dVar 1) dANil)))) (dB (dOp2 gLt (dVar 1) (dC (.int 0))))) (dRaise "Malformed") dNext))
  (dSeq (dBind (dCall 1 F_u_limited (dACons (dU gLen (dVar 0)) dANil)) (stSet 2))
  (dSeq (dBind (dLst dANil) (stSet 3))
  (dSeq (dFrz 3 (dFor (dRng1 (dVar 2)) (tg1 4) (dFor (dRng1 (dVar 2)) (tg1 5) (dIf (dAndT (dB (dOp2 gNe (dOp2 gIx (dVar 0) (dVar 4)) (dOp2 gIx (dVar 0) (dVar 5)))) (dB (dCall 2 F_is_part (dACons (dOp2 gIx (dVar 0) (dVar 4)) (dACons (dOp2 gIx (dVar 0) (dVar 5)) dANil))))) (dHas 3 (dBind (dTup (dACons (dVar 4) (dACons (dVar 5) dANil))) (stApp 3))) dNext))))
  (dBind (dMake "Order" 2 F_OrderU_initU (dACons (dVar 2) (dACons (dVar 3) dANil))) fun d ρ => .rt d ρ))))))
def F_by_inclusion : List D → FR := fnD 6 none B_by_inclusion
def B_divisor_order : DL.Env → Fl :=
  (dSeq (dIf (dOrT (dNotT (dB (dCall 1 F_is_integer (dACons (dVar 0) dANil)))) (dOrT (dB (dOp2 gLt (dVar 0) (dC (.int 1)))) (dB (dOp2 gGt (dVar 0) (dC (.int 1000000)))))) (dRaise "Malformed") dNext)
  (dSeq (dFrz 1 (dBind (dLc [7] (dRng2 (dC (.int 1)) (dC (.int 1001))) (tg1 7) (dAndT (dB (dOp2 gEq (dOp2 gMod (dVar 0) (dVar 7)) (dC (.int 0)))) (dB (dOp2 gLe (dOp2 gMul (dVar 7) (dVar 7)) (dVar 0)))) (dVar 7)) (stSet 1)))
  (dSeq (dBind (dFz (dU gSortI (dOp2 gAdd (dVar 1) (dLc [7] (dIter (dVar 1)) (tg1 7) (dB (dOp2 gLt (dOp2 gMul (dVar 7) (dVar 7)) (dVar 0))) (dOp2 gFdiv (dVar 0) (dVar 7)))))) (stSet 2))
  (dSeq (dBind (dCall 1 F_u_limited (dACons (dU gLen (dVar 2)) dANil)) (stSet 3))
  (dSeq (dBind (dLst dANil) (stSet 4))
  (dSeq (dFrz 4 (dFor (dRng1 (dVar 3)) (tg1 5) (dFor (dRng2 (dOp2 gAdd (dVar 5) (dC (.int 1))) (dVar 3)) (tg1 6) (dIf (dB (dOp2 gEq (dOp2 gMod (dOp2 gIx (dVar 2) (dVar 6)) (dOp2 gIx (dVar 2) (dVar 5))) (dC (.int 0)))) (dHas 4 (dBind (dTup (dACons (dVar 5) (dACons (dVar 6) dANil))) (stApp 4))) dNext))))
  (dBind (dMake "Order" 2 F_OrderU_initU (dACons (dVar 3) (dACons (dVar 4) dANil))) fun d ρ => .rt d ρ)))))))
def F_divisor_order : List D → FR := fnD 8 none B_divisor_order
def B_law_is_inside : DL.Env → Fl :=
  (dSeq (whL (dB (dOp2 gGt (dVar 0) (dC (.int 0)))) (dSeq (dIf (dAndT (dB (dOp2 gEq (dOp2 gMod (dVar 0) (dC (.int 2))) (dC (.int 1)))) (dB (dOp2 gEq (dOp2 gMod (dVar 1) (dC (.int 2))) (dC (.int 0))))) (dBind (dC (.bl false)) fun d ρ => .rt d ρ) dNext)
  (dSeq (dBind (dOp2 gFdiv (dVar 0) (dC (.int 2))) (stSet 0))
  (dBind (dOp2 gFdiv (dVar 1) (dC (.int 2))) (stSet 1)))) 100000)
  (dBind (dC (.bl true)) fun d ρ => .rt d ρ))
def F_law_is_inside : List D → FR := fnD 2 none B_law_is_inside
def B_Order_turned : DL.Env → Fl :=
  (dBind (dMake "Order" 2 F_OrderU_initU (dACons (dU (gFld "n") (dVar 0)) (dACons (dLc [1, 2] (dIter (dMeth "Order" "pairs" 0 F_Order_pairs (dVar 0) dANil)) (tgT [1, 2]) dYes (dTup (dACons (dVar 2) (dACons (dVar 1) dANil)))) dANil))) fun d ρ => .rt d ρ)
def F_Order_turned : List D → FR := fnD 3 none B_Order_turned
def B_is_set : DL.Env → Fl :=
  (dBind (dAndV (dCall 1 F_is_integer (dACons (dVar 0) dANil)) (dChain gLe gLt (dC (.int 0)) (dVar 0) (dOp2 gShl (dC (.int 1)) (dVar 1)))) fun d ρ => .rt d ρ)
def F_is_set : List D → FR := fnD 2 none B_is_set
def B_Order_renumbered : DL.Env → Fl :=
  (dSeq (dIf (dOrT (dNotT (dB (dU (gIsi "tuple") (dVar 1)))) (dB (dOp2 gNe (dU gLen (dVar 1)) (dU (gFld "n") (dVar 0))))) (dRaise "Malformed") dNext)
  (dSeq (dFor (dIter (dVar 1)) (tg1 2) (dIf (dNotT (dB (dCall 1 F_is_integer (dACons (dVar 2) dANil)))) (dRaise "Malformed") dNext))
  (dSeq (dIf (dB (dOp2 gNe (dU gSortI (dVar 1)) (dU gLRng (dU (gFld "n") (dVar 0))))) (dRaise "Malformed") dNext)
  (dBind (dMake "Order" 2 F_OrderU_initU (dACons (dU (gFld "n") (dVar 0)) (dACons (dLc [2, 3] (dIter (dMeth "Order" "pairs" 0 F_Order_pairs (dVar 0) dANil)) (tgT [2, 3]) dYes (dTup (dACons (dOp2 gIx (dVar 1) (dVar 2)) (dACons (dOp2 gIx (dVar 1) (dVar 3)) dANil)))) dANil))) fun d ρ => .rt d ρ))))
def F_Order_renumbered : List D → FR := fnD 4 none B_Order_renumbered
def B_law_function : DL.Env → Fl :=
  (dSeq (dBind (dMeth "Order" "size" 0 F_Order_size (dVar 0) dANil) (stSet 2))
  (dSeq (dBind (dLst dANil) (stSet 3))
  (dSeq (dFrz 3 (dFor (dRng1 (dVar 2)) (tg1 4) (dSeq (dBind (dLst dANil) (stSet 5))
  (dSeq (dFrz 5 (dFor (dRng1 (dVar 2)) (tg1 6) (dSeq (dBind (dOp2 gSub (dCallL 2 (some 0) F_law_next (dALent 1 (dACons (dC (.int 5)) dANil))) (dC (.int 2))) (stSet 7))
  (dSeq (dIf (dB (dOp2 gEq (dVar 4) (dVar 6))) (dBind (dOp2 gSub (dC (.int 1)) (dOp2 gMul (dC (.int 2)) (dOp2 gMod (dVar 7) (dC (.int 2))))) (stSet 7)) dNext)
  (dSeq (dIf (dNotT (dB (dMeth "Order" "at_most" 2 F_Order_at_most (dVar 0) (dACons (dVar 4) (dACons (dVar 6) dANil))))) (dBind (dC (.int 0)) (stSet 7)) dNext)
  (dHas 5 (dBind (dVar 7) (stApp 5))))))))
  (dHas 3 (dBind (dVar 5) (stApp 3)))))))
  (dBind (dVar 3) fun d ρ => .rt d ρ))))
def F_law_function : List D → FR := fnD 8 (some 1) B_law_function
def B_is_table : DL.Env → Fl :=
  (dSeq (dBind (dMeth "Order" "size" 0 F_Order_size (dVar 0) dANil) (stSet 2))
  (dSeq (dIf (dOrT (dNotT (dB (dU (gIsi2 "tuple" "list") (dVar 1)))) (dB (dOp2 gNe (dU gLen (dVar 1)) (dVar 2)))) (dBind (dC (.bl false)) fun d ρ => .rt d ρ) dNext)
  (dSeq (dFor (dRng1 (dVar 2)) (tg1 3) (dSeq (dIf (dOrT (dNotT (dB (dU (gIsi2 "tuple" "list") (dOp2 gIx (dVar 1) (dVar 3))))) (dB (dOp2 gNe (dU gLen (dOp2 gIx (dVar 1) (dVar 3))) (dVar 2)))) (dBind (dC (.bl false)) fun d ρ => .rt d ρ) dNext)
  (dFor (dRng1 (dVar 2)) (tg1 4) (dSeq (dIf (dNotT (dB (dCall 1 F_is_integer (dACons (dOp2 gIx (dOp2 gIx (dVar 1) (dVar 3)) (dVar 4)) dANil)))) (dBind (dC (.bl false)) fun d ρ => .rt d ρ) dNext)
  (dIf (dAndT (dB (dOp2 gNe (dOp2 gIx (dOp2 gIx (dVar 1) (dVar 3)) (dVar 4)) (dC (.int 0)))) (dNotT (dB (dMeth "Order" "at_most" 2 F_Order_at_most (dVar 0) (dACons (dVar 3) (dACons (dVar 4) dANil)))))) (dBind (dC (.bl false)) fun d ρ => .rt d ρ) dNext)))))
  (dBind (dC (.bl true)) fun d ρ => .rt d ρ))))
def F_is_table : List D → FR := fnD 5 none B_is_table
def B_IncidenceU_initU : DL.Env → Fl :=
  (dSeq (dIf (dNotT (dB (dCall 2 F_is_table (dACons (dVar 1) (dACons (dVar 2) dANil))))) (dRaise "Malformed") dNext)
  (dSeq (dBind (dVar 1) (stFld "Incidence" "order" 0))
  (dBind (dU gTuple (dLc [3] (dIter (dVar 2)) (tg1 3) dYes (dU gTuple (dVar 3)))) (stFld "Incidence" "rows" 0))))
def F_IncidenceU_initU : List D → FR := fnD 4 (some 0) B_IncidenceU_initU
def B_IncidenceU_eqU : DL.Env → Fl :=
  (dBind (dAndV (dU (gIsiA "Incidence") (dVar 1)) (dAndV (dOp2 (gOr (gOwn "Order" F_OrderU_eqU false) (gOr (gOwnT "Order" F_OrderU_eqU) gEq)) (dU (gFld "order") (dVar 0)) (dU (gFld "order") (dVar 1))) (dOp2 gEq (dU (gFld "rows") (dVar 0)) (dU (gFld "rows") (dVar 1))))) fun d ρ => .rt d ρ)
def F_IncidenceU_eqU : List D → FR := fnD 2 none B_IncidenceU_eqU
def B_check_same : DL.Env → Fl :=
  (dIf (dB (dOp2 (gOwn "Order" F_OrderU_eqU true) (dU (gFld "order") (dVar 0)) (dU (gFld "order") (dVar 1)))) (dRaise "Malformed") dNext)
def F_check_same : List D → FR := fnD 2 none B_check_same
def B_IncidenceU_mulU : DL.Env → Fl :=
  (dSeq (dBind (dCall 2 F_check_same (dACons (dVar 0) (dACons (dVar 1) dANil))) fun _ ρ => .nx ρ)
  (dSeq (dBind (dU gLen (dU (gFld "rows") (dVar 0))) (stSet 2))
  (dSeq (dBind (dLst dANil) (stSet 3))
  (dSeq (dFrz 3 (dFor (dRng1 (dVar 2)) (tg1 4) (dSeq (dBind (dLst dANil) (stSet 5))
  (dSeq (dFrz 5 (dFor (dRng1 (dVar 2)) (tg1 6) (dHas 5 (dBind (dU gSum (dLc [7] (dRng1 (dVar 2)) (tg1 7) dYes (dOp2 gMul (dOp2 gIx (dOp2 gIx (dU (gFld "rows") (dVar 0)) (dVar 4)) (dVar 7)) (dOp2 gIx (dOp2 gIx (dU (gFld "rows") (dVar 1)) (dVar 7)) (dVar 6))))) (stApp 5)))))
  (dHas 3 (dBind (dVar 5) (stApp 3)))))))
  (dBind (dMake "Incidence" 2 F_IncidenceU_initU (dACons (dU (gFld "order") (dVar 0)) (dACons (dVar 3) dANil))) fun d ρ => .rt d ρ)))))
def F_IncidenceU_mulU : List D → FR := fnD 8 none B_IncidenceU_mulU
def B_IncidenceU_addU : DL.Env → Fl :=
  (dSeq (dBind (dCall 2 F_check_same (dACons (dVar 0) (dACons (dVar 1) dANil))) fun _ ρ => .nx ρ)
  (dSeq (dBind (dU gLen (dU (gFld "rows") (dVar 0))) (stSet 2))
  (dBind (dMake "Incidence" 2 F_IncidenceU_initU (dACons (dU (gFld "order") (dVar 0)) (dACons (dLc [3] (dRng1 (dVar 2)) (tg1 3) dYes (dLc [4] (dRng1 (dVar 2)) (tg1 4) dYes (dOp2 gAdd (dOp2 gIx (dOp2 gIx (dU (gFld "rows") (dVar 0)) (dVar 3)) (dVar 4)) (dOp2 gIx (dOp2 gIx (dU (gFld "rows") (dVar 1)) (dVar 3)) (dVar 4))))) dANil))) fun d ρ => .rt d ρ)))
def F_IncidenceU_addU : List D → FR := fnD 5 none B_IncidenceU_addU
def B_IncidenceU_negU : DL.Env → Fl :=
  (dBind (dMake "Incidence" 2 F_IncidenceU_initU (dACons (dU (gFld "order") (dVar 0)) (dACons (dLc [1] (dIter (dU (gFld "rows") (dVar 0))) (tg1 1) dYes (dLc [2] (dIter (dVar 1)) (tg1 2) dYes (dU gNeg (dVar 2)))) dANil))) fun d ρ => .rt d ρ)
def F_IncidenceU_negU : List D → FR := fnD 3 none B_IncidenceU_negU
def B_IncidenceU_subU : DL.Env → Fl :=
  (dBind (dBinO "Incidence" F_IncidenceU_addU (dVar 0) (dFz (dNegO "Incidence" F_IncidenceU_negU (dVar 1)))) fun d ρ => .rt d ρ)
def F_IncidenceU_subU : List D → FR := fnD 2 none B_IncidenceU_subU
def B_law_unlike : DL.Env → Fl :=
  (dSeq (dBind (dC (.int 0)) (stSet 2))
  (dSeq (dTry (dBind (dBinO "Incidence" F_IncidenceU_mulU (dVar 0) (dVar 1)) fun _ ρ => .nx ρ) ((("Malformed" : Str), ([("Malformed", true), ("Refused", false)] : List (Str × Bool)), fun _ => (dBind (dOp2 gAdd (dVar 2) (dC (.int 1))) (stSet 2))) :: []))
  (dSeq (dTry (dBind (dBinO "Incidence" F_IncidenceU_addU (dVar 0) (dVar 1)) fun _ ρ => .nx ρ) ((("Malformed" : Str), ([("Malformed", true), ("Refused", false)] : List (Str × Bool)), fun _ => (dBind (dOp2 gAdd (dVar 2) (dC (.int 1))) (stSet 2))) :: []))
  (dSeq (dTry (dBind (dBinO "Incidence" F_IncidenceU_subU (dVar 0) (dVar 1)) fun _ ρ => .nx ρ) ((("Malformed" : Str), ([("Malformed", true), ("Refused", false)] : List (Str × Bool)), fun _ => (dBind (dOp2 gAdd (dVar 2) (dC (.int 1))) (stSet 2))) :: []))
  (dBind (dOp2 gEq (dVar 2) (dC (.int 3))) fun d ρ => .rt d ρ)))))
def F_law_unlike : List D → FR := fnD 3 none B_law_unlike
def B_law_refuses : DL.Env → Fl :=
  (dTry (dSeq (dBind (dMake "Incidence" 2 F_IncidenceU_initU (dACons (dVar 0) (dACons (dVar 1) dANil))) fun _ ρ => .nx ρ)
  (dBind (dC (.bl false)) fun d ρ => .rt d ρ)) ((("Malformed" : Str), ([("Malformed", true), ("Refused", false)] : List (Str × Bool)), fun _ => (dBind (dC (.bl true)) fun d ρ => .rt d ρ)) :: []))
def F_law_refuses : List D → FR := fnD 2 none B_law_refuses
def B_law_times : DL.Env → Fl :=
  (dSeq (dBind (dU gLen (dVar 1)) (stSet 3))
  (dSeq (dBind (dLst dANil) (stSet 4))
  (dSeq (dFrz 4 (dFor (dRng1 (dVar 3)) (tg1 5) (dSeq (dBind (dLst dANil) (stSet 6))
  (dSeq (dFrz 6 (dFor (dRng1 (dVar 3)) (tg1 7) (dSeq (dBind (dC (.int 0)) (stSet 8))
  (dSeq (dFor (dRng1 (dVar 3)) (tg1 9) (dIf (dAndT (dOrT (dB (dOp2 gEq (dVar 5) (dVar 9))) (dB (dOp2 gIx (dOp2 gIx (dVar 0) (dVar 5)) (dVar 9)))) (dOrT (dB (dOp2 gEq (dVar 9) (dVar 7))) (dB (dOp2 gIx (dOp2 gIx (dVar 0) (dVar 9)) (dVar 7))))) (dBind (dOp2 gAdd (dVar 8) (dOp2 gMul (dOp2 gIx (dOp2 gIx (dVar 1) (dVar 5)) (dVar 9)) (dOp2 gIx (dOp2 gIx (dVar 2) (dVar 9)) (dVar 7)))) (stSet 8)) dNext))
  (dHas 6 (dBind (dVar 8) (stApp 6)))))))
  (dHas 4 (dBind (dU gTuple (dVar 6)) (stApp 4)))))))
  (dBind (dU gTuple (dVar 4)) fun d ρ => .rt d ρ))))
def F_law_times : List D → FR := fnD 10 none B_law_times
def B_delta : DL.Env → Fl :=
  (dSeq (dBind (dMeth "Order" "size" 0 F_Order_size (dVar 0) dANil) (stSet 1))
  (dBind (dMake "Incidence" 2 F_IncidenceU_initU (dACons (dVar 0) (dACons (dLc [2] (dRng1 (dVar 1)) (tg1 2) dYes (dLc [3] (dRng1 (dVar 1)) (tg1 3) dYes (dU gInt (dOp2 gEq (dVar 2) (dVar 3))))) dANil))) fun d ρ => .rt d ρ))
def F_delta : List D → FR := fnD 4 none B_delta
def B_Incidence_power : DL.Env → Fl :=
  (dSeq (dBind (dFz (dCall 1 F_delta (dACons (dU (gFld "order") (dVar 0)) dANil))) (stSet 2))
  (dSeq (dFor (dRng1 (dVar 1)) (tg1 3) (dBind (dFz (dBinO "Incidence" F_IncidenceU_mulU (dVar 2) (dVar 0))) (stSet 2)))
  (dBind (dVar 2) fun d ρ => .rt d ρ)))
def F_Incidence_power : List D → FR := fnD 4 none B_Incidence_power
def B_Incidence_value : DL.Env → Fl :=
  (dBind (dOp2 gIx (dOp2 gIx (dU (gFld "rows") (dVar 0)) (dVar 1)) (dVar 2)) fun d ρ => .rt d ρ)
def F_Incidence_value : List D → FR := fnD 3 none B_Incidence_value
def B_Incidence_scaled : DL.Env → Fl :=
  (dBind (dMake "Incidence" 2 F_IncidenceU_initU (dACons (dU (gFld "order") (dVar 0)) (dACons (dLc [2] (dIter (dU (gFld "rows") (dVar 0))) (tg1 2) dYes (dLc [3] (dIter (dVar 2)) (tg1 3) dYes (dOp2 gMul (dVar 1) (dVar 3)))) dANil))) fun d ρ => .rt d ρ)
def F_Incidence_scaled : List D → FR := fnD 4 none B_Incidence_scaled
def B_upwards : DL.Env → Fl :=
  (dSeq (dBind (dMeth "Order" "below" 0 F_Order_below (dVar 0) dANil) (stSet 2))
  (dSeq (dBind (dFz (dLst (dACons (dVar 1) dANil))) (stSet 3))
  (dSeq (dFrz 4 (dBind (dLc [5] (dRng1 (dMeth "Order" "size" 0 F_Order_size (dVar 0) dANil)) (tg1 5) (dB (dMeth "Order" "less" 2 F_Order_less (dVar 0) (dACons (dVar 1) (dACons (dVar 5) dANil)))) (dVar 5)) (stSet 4)))
  (dSeq (whL (dB (dOp2 gGt (dU gLen (dVar 4)) (dC (.int 0)))) (dSeq (dFor (dIter (dFz (dU gList (dVar 4)))) (tg1 5) (dIf (dB (dU gAll (dLc [6] (dRng1 (dMeth "Order" "size" 0 F_Order_size (dVar 0) dANil)) (tg1 6) (dB (dOp2 gNe (dOp2 gAnd (dOp2 gIx (dVar 2) (dVar 5)) (dOp2 gShl (dC (.int 1)) (dVar 6))) (dC (.int 0)))) (dOrV (dOp2 gIn (dVar 6) (dVar 3)) (dNotV (dMeth "Order" "less" 2 F_Order_less (dVar 0) (dACons (dVar 1) (dACons (dVar 6) dANil)))))))) (dBind (dFz (dOp2 gAdd (dVar 3) (dLst (dACons (dVar 5) dANil)))) (stSet 3)) dNext))
  (dFrz 4 (dBind (dLc [5] (dIter (dVar 4)) (tg1 5) (dB (dOp2 gNotIn (dVar 5) (dVar 3))) (dVar 5)) (stSet 4)))) 100000)
  (dBind (dVar 3) fun d ρ => .rt d ρ)))))
def F_upwards : List D → FR := fnD 7 none B_upwards
def B_Incidence_inverse : DL.Env → Fl :=
  (dSeq (dBind (dU gLen (dU (gFld "rows") (dVar 0))) (stSet 1))
  (dSeq (dFor (dRng1 (dVar 1)) (tg1 2) (dIf (dB (dOp2 gNotIn (dOp2 gIx (dOp2 gIx (dU (gFld "rows") (dVar 0)) (dVar 2)) (dVar 2)) (dTup (dACons (dC (.int 1)) (dACons (dU gNeg (dC (.int 1))) dANil))))) (dBind (dC (.str "inverse")) (stRaise "Refused" "reason" DL.okStr)) dNext))
  (dSeq (dBind (dLc [5] (dRng1 (dVar 1)) (tg1 5) dYes (dLc [5] (dRng1 (dVar 1)) (tg1 5) dYes (dC (.int 0)))) (stSet 3))
  (dSeq (dFrz 3 (dFor (dRng1 (dVar 1)) (tg1 2) (dFor (dIter (dCall 2 F_upwards (dACons (dU (gFld "order") (dVar 0)) (dACons (dVar 2) dANil)))) (tg1 4) (dIf (dB (dOp2 gEq (dVar 2) (dVar 4))) (dBind (dOp2 gIx (dOp2 gIx (dU (gFld "rows") (dVar 0)) (dVar 2)) (dVar 2)) (stSub2 3 (qVar 2) (qVar 2))) (dSeq (dBind (dU gSum (dLc [7] (dRng1 (dVar 1)) (tg1 7) (dB (dOp2 gNe (dVar 7) (dVar 4))) (dOp2 gMul (dDp (dIxP (dIxP (dPeek 3) (qVar 2)) (qVar 7))) (dOp2 gIx (dOp2 gIx (dU (gFld "rows") (dVar 0)) (dVar 7)) (dVar 4))))) (stSet 6))
  (dBind (dOp2 gMul (dU gNeg (dVar 6)) (dOp2 gIx (dOp2 gIx (dU (gFld "rows") (dVar 0)) (dVar 4)) (dVar 4))) (stSub2 3 (qVar 2) (qVar 4))))))))
  (dBind (dMake "Incidence" 2 F_IncidenceU_initU (dACons (dU (gFld "order") (dVar 0)) (dACons (dVar 3) dANil))) fun d ρ => .rt d ρ)))))
def F_Incidence_inverse : List D → FR := fnD 8 none B_Incidence_inverse
def B_law_sets : DL.Env → Fl :=
  (dSeq (dBind (dFz (dLst (dACons (dTup dANil) dANil))) (stSet 1))
  (dSeq (dFor (dRng1 (dVar 0)) (tg1 2) (dBind (dFz (dOp2 gAdd (dVar 1) (dLc [3] (dIter (dVar 1)) (tg1 3) dYes (dOp2 gAdd (dVar 3) (dTup (dACons (dVar 2) dANil)))))) (stSet 1)))
  (dBind (dVar 1) fun d ρ => .rt d ρ)))
def F_law_sets : List D → FR := fnD 4 none B_law_sets
def B_law_chain : DL.Env → Fl :=
  (dSeq (dFor (dIter (dVar 1)) (tg1 2) (dFor (dIter (dVar 1)) (tg1 3) (dIf (dAndT (dB (dOp2 gNe (dVar 2) (dVar 3))) (dAndT (dNotT (dB (dOp2 gIx (dOp2 gIx (dVar 0) (dVar 2)) (dVar 3)))) (dNotT (dB (dOp2 gIx (dOp2 gIx (dVar 0) (dVar 3)) (dVar 2)))))) (dBind (dC (.bl false)) fun d ρ => .rt d ρ) dNext)))
  (dBind (dC (.bl true)) fun d ρ => .rt d ρ))
def F_law_chain : List D → FR := fnD 4 none B_law_chain
def B_binomial : DL.Env → Fl :=
  (dSeq (dBind (dC (.int 1)) (stSet 2))
  (dSeq (dFor (dRng1 (dVar 1)) (tg1 3) (dBind (dOp2 gFdiv (dOp2 gMul (dVar 2) (dOp2 gSub (dVar 0) (dVar 3))) (dOp2 gAdd (dVar 3) (dC (.int 1)))) (stSet 2)))
  (dBind (dVar 2) fun d ρ => .rt d ρ)))
def F_binomial : List D → FR := fnD 4 none B_binomial
def B_value_at : DL.Env → Fl :=
  (dBind (dU gSum (dLc [2] (dRng1 (dU gLen (dVar 0))) (tg1 2) dYes (dOp2 gMul (dOp2 gIx (dVar 0) (dVar 2)) (dCall 2 F_binomial (dACons (dVar 1) (dACons (dVar 2) dANil)))))) fun d ρ => .rt d ρ)
def F_value_at : List D → FR := fnD 3 none B_value_at
def B_law_rows : DL.Env → Fl :=
  (dSeq (dFrz 2 (dBind (dLc [6] (dRng1 (dU gLen (dVar 0))) (tg1 6) dYes (dTup (dACons (dVar 6) dANil))) (stSet 2)))
  (dSeq (dFor (dRng1 (dVar 1)) (tg1 3) (dSeq (dBind (dLst dANil) (stSet 4))
  (dSeq (dFrz 4 (dFor (dIter (dFz (dU gList (dVar 2)))) (tg1 5) (dFor (dRng1 (dU gLen (dVar 0))) (tg1 7) (dIf (dOrT (dB (dOp2 gEq (dVar 7) (dOp2 gIx (dVar 5) (dU gNeg (dC (.int 1)))))) (dB (dOp2 gIx (dOp2 gIx (dVar 0) (dOp2 gIx (dVar 5) (dU gNeg (dC (.int 1))))) (dVar 7)))) (dHas 4 (dBind (dOp2 gAdd (dVar 5) (dTup (dACons (dVar 7) dANil))) (stApp 4))) dNext))))
  (dBind (dVar 4) (stSet 2)))))
  (dBind (dU gLen (dVar 2)) fun d ρ => .rt d ρ)))
def F_law_rows : List D → FR := fnD 8 none B_law_rows
def B_trimmed : DL.Env → Fl :=
  (dSeq (dBind (dU gLen (dVar 0)) (stSet 1))
  (dSeq (whL (dAndT (dB (dOp2 gGt (dVar 1) (dC (.int 0)))) (dB (dOp2 gEq (dOp2 gIx (dVar 0) (dOp2 gSub (dVar 1) (dC (.int 1)))) (dC (.int 0))))) (dBind (dOp2 gSub (dVar 1) (dC (.int 1))) (stSet 1)) 100000)
  (dBind (dU gTuple (dSl (dVar 0) none (some (dVar 1)))) fun d ρ => .rt d ρ)))
def F_trimmed : List D → FR := fnD 2 none B_trimmed
def B_zeta : DL.Env → Fl :=
  (dSeq (dBind (dMeth "Order" "size" 0 F_Order_size (dVar 0) dANil) (stSet 1))
  (dBind (dMake "Incidence" 2 F_IncidenceU_initU (dACons (dVar 0) (dACons (dLc [2] (dRng1 (dVar 1)) (tg1 2) dYes (dLc [3] (dRng1 (dVar 1)) (tg1 3) dYes (dU gInt (dMeth "Order" "at_most" 2 F_Order_at_most (dVar 0) (dACons (dVar 2) (dACons (dVar 3) dANil)))))) dANil))) fun d ρ => .rt d ρ))
def F_zeta : List D → FR := fnD 4 none B_zeta
def B_chain_counts : DL.Env → Fl :=
  (dSeq (dBind (dLst (dACons (dC (.int 1)) dANil)) (stSet 1))
  (dSeq (dBind (dFz (dBinO "Incidence" F_IncidenceU_subU (dFz (dCall 1 F_zeta (dACons (dVar 0) dANil))) (dFz (dCall 1 F_delta (dACons (dVar 0) dANil))))) (stSet 2))
  (dSeq (dBind (dFz (dCall 1 F_delta (dACons (dVar 0) dANil))) (stSet 3))
  (dSeq (dFrz 1 (dFor (dRng1 (dMeth "Order" "size" 0 F_Order_size (dVar 0) dANil)) (tg1 4) (dSeq (dHas 1 (dBind (dU gSum (dLc [5] (dIter (dU (gFld "rows") (dVar 3))) (tg1 5) dYes (dU gSum (dVar 5)))) (stApp 1)))
  (dBind (dFz (dBinO "Incidence" F_IncidenceU_mulU (dVar 3) (dVar 2))) (stSet 3)))))
  (dBind (dCall 1 F_trimmed (dACons (dVar 1) dANil)) fun d ρ => .rt d ρ)))))
def F_chain_counts : List D → FR := fnD 6 none B_chain_counts
def B_chain_polynomial : DL.Env → Fl :=
  (dBind (dSl (dCall 1 F_chain_counts (dACons (dVar 0) dANil)) (some (dC (.int 1))) none) fun d ρ => .rt d ρ)
def F_chain_polynomial : List D → FR := fnD 1 none B_chain_polynomial
end DC
namespace DC
open PySem L2 DL
theorem has_eq (m x : Nat) : F_has [.int m, .int x] = .rt (.bl (m.testBit x)) none := by
  apply wf_eq
  unfold F_has
  rw [wf_fn]
  unfold B_has
  simp [ioOf]
  rw [PyProof.Rows.bitAnd_m1, Nat.testBit_eq_decide_div_mod_eq]
  congr 1
  have : ((m : Int) / 2 ^ x) = ((m / 2 ^ x : Nat) : Int) := by simp
  rw [this]
  simp only [eq_iff_iff]
  omega
def Stt (d : D) : Prop := ∃ s t : Int, d = .lst true [.int s, .int t] ∧ 0 ≤ s ∧ 0 ≤ t ∧ t < 2147483647
theorem mulOk_of {a b : Int} {m n : Nat} (ha : Builtin.Int.intBits a ≤ m) (hb : Builtin.Int.intBits b ≤ n) (h : m + n ≤ 134217728) : mulOk a b = true := by
  unfold mulOk
  rw [decide_eq_true_eq]
  omega
theorem bits31 {t : Int} (h0 : 0 ≤ t) (h : t < 2147483647) : Builtin.Int.intBits t ≤ 31 := PySem.intBits_le_iff.mpr (by omega)
theorem bits_c {t : Int} {n : Nat} (h : t.natAbs < 2 ^ n) : Builtin.Int.intBits t ≤ n := PySem.intBits_le_iff.mpr h
theorem divOk_small {i j : Int} (h : 0 < j) (h2 : j < 1073741824) : divOk i j = true := by
  unfold divOk
  simp [h, h2]
theorem take_wf {st : D} (h : Stt st) (m : Int) (hm : 0 < m) (hm2 : m < 1000000) : WF NoE (fun d io => ∃ v : Int, d = .int v ∧ 0 ≤ v ∧ v < m ∧ ∃ st', io = some st' ∧ Stt st') (F_law_take [st, .int m]) := by
  obtain ⟨s, t, rfl, hs, ht, ht2⟩ := h
  unfold F_law_take
  rw [wf_fn]
  unfold B_law_take
  simp [ioOf, gIxO, atI, ixN]
  have b1 := bits31 ht ht2
  split
  · exact ⟨hm, divOk_small hm (by omega), Int.emod_nonneg _ (by omega), Int.emod_lt_of_pos _ hm, _, _, rfl, Int.ediv_nonneg hs (by omega), ht, ht2⟩
  · have h1 := Int.emod_nonneg (t * 48271 + 11) (show (2147483647 : Int) ≠ 0 by decide)
    have h2 := Int.emod_lt_of_pos (t * 48271 + 11) (show (0 : Int) < 2147483647 by decide)
    exact ⟨mulOk_of b1 (bits_c (n := 16) (by decide)) (by decide), divOk_small (by decide) (by decide), hm, Int.emod_nonneg _ (by omega), Int.emod_lt_of_pos _ hm, _, _, rfl, hs, h1, h2⟩
@[irreducible] def bb (i : Nat) : Nat := 1048576 + 22 * i
theorem bb_s (i : Nat) : bb (i + 1) = bb i + 22 := by unfold bb; omega
theorem bb_lo (i : Nat) : 1048576 ≤ bb i := by unfold bb; omega
theorem bb_hi {i : Nat} (h : i ≤ 63) : bb i ≤ 1050000 := by unfold bb; omega
theorem state_wf (ns : List Int) (hl : ns.length ≤ 63) (hb : ∀ z ∈ ns, Builtin.Int.intBits z ≤ 1048576) : WF NoE (fun d _ => Stt d) (F_law_state [.scr (ns.map D.int)]) := by
  unfold F_law_state
  rw [wf_fn]
  unfold B_law_state
  have hf : isFL (ns.map D.int) = true := isFL_map fun _ => rfl
  have hcut : cutD (ns.map D.int) none (some 63) = ns.map D.int := by
    unfold cutD
    have e1 : HT.sIx (ns.map D.int).length 0 none = 0 := rfl
    have e2 : HT.sIx (ns.map D.int).length (ns.map D.int).length (some 63) = ns.length := by
      rw [show (63 : Int) = ((63 : Nat) : Int) from rfl, HT.sIx_nat, List.length_map]
      omega
    rw [e1, e2, Nat.sub_zero, List.drop_zero]
    exact List.take_of_length_le (by simp)
  simp [gSl, hf, hcut, itemsOf]
  refine ⟨by omega, ?_⟩
  refine wp_for (fun i ρ => ∃ (s t : Int) (v : Option D), ρ = [some (.scr (ns.map D.int)), some (.int s), some (.int t), v] ∧ 0 ≤ s ∧ Builtin.Int.intBits s ≤ bb i ∧ 0 ≤ t ∧ t < 2147483647) ?_ ?_ ?_
  · exact ⟨0, 1, none, rfl, by decide, PySem.intBits_le_iff.mpr (Nat.two_pow_pos _), by decide, by decide⟩
  · intro i d ρ hd h
    obtain ⟨s, t, v, hρ, h1, h2, h3, h4⟩ := h
    subst hρ
    rw [List.getElem?_map] at hd
    cases hz : ns[i]? with
    | none => rw [hz] at hd; cases hd
    | some z =>
      rw [hz] at hd
      cases hd
      have hi : i < ns.length := (List.getElem?_eq_some_iff.mp hz).1
      have bz := hb z (List.mem_of_getElem? hz)
      have babs : Builtin.Int.intBits (if z < 0 then -z else z) ≤ 1048576 := by
        split
        · exact PySem.intBits_neg_le bz
        · exact bz
      have habs : 0 ≤ (if z < 0 then -z else z) := by split <;> omega
      have b20 : Builtin.Int.intBits (1000003 : Int) ≤ 20 := bits_c (by decide)
      have h5 := PySem.intBits_add_le (PySem.intBits_mul_le h2 b20) babs
      have q1 := bb_s i
      have q2 := bb_lo i
      have q3 := bb_hi (i := i) (by omega)
      have h6 := Int.emod_nonneg (t * 48271 + z) (show (2147483647 : Int) ≠ 0 by decide)
      have h7 := Int.emod_lt_of_pos (t * 48271 + z) (show (0 : Int) < 2147483647 by decide)
      simp [hf]
      generalize (if z < 0 then -z else z) = az at *
      have k1 : mulOk s 1000003 = true := mulOk_of h2 b20 (Nat.le_trans (Nat.add_le_add_right q3 20) (by decide))
      have k2 : mulOk t 48271 = true := mulOk_of (bits31 h3 h4) (bits_c (n := 16) (by decide)) (by decide)
      rw [Nat.max_eq_left (Nat.le_trans q2 (Nat.le_add_right _ _))] at h5
      have k3 : Builtin.Int.intBits (s * 1000003 + az) ≤ bb (i + 1) := by
        rw [q1]
        exact Nat.le_succ_of_le h5
      have k4 : 0 ≤ s * 1000003 + az := by clear h5 k3 babs bz h2 q1 q2 q3; omega
      exact ⟨k1, k2, _, _, ⟨rfl, rfl⟩, k4, k3, h6, h7⟩
  · rintro ρ ⟨s, t, v, rfl, h1, h2, h3, h4⟩
    simp [hf]
    exact ⟨s, t, rfl, h1, h3, h4⟩
theorem intL_map (n : Nat) : intL 0 n = ((List.range n).map fun (i : Nat) => ((i : Nat) : Int)).map D.int := by
  unfold intL
  rw [List.map_map]
  apply List.map_congr_left
  intro a _
  simp
def natD (n : Nat) : D := .a (.int (n : Int))
@[simp] theorem isF_natD {n : Nat} : isF (natD n) = true := rfl
@[simp] theorem frz_natD {n : Nat} : frz (natD n) = natD n := rfl
theorem intL_nat (n : Nat) : intL 0 n = (List.range n).map natD := by
  unfold intL natD
  apply List.map_congr_left
  intro a _
  simp
theorem seqIx_nat {v : Int} {n : Nat} (h0 : 0 ≤ v) (h : v < n) : seqIndex? v n = some v.toNat := by
  unfold seqIndex?
  have : ¬ v < 0 := by omega
  simp [this, h0, h]
end DC
namespace DC
open PySem L2 DL
@[simp] theorem frzL_nat {l : List Nat} : frzL (l.map natD) = l.map natD := frzL_map fun _ => rfl
@[simp] theorem isFL_nat {l : List Nat} : isFL (l.map natD) = true := isFL_map fun _ => rfl
theorem map_erase {α β : Type} (f : α → β) : ∀ (l : List α) (i : Nat), (l.map f).eraseIdx i = (l.eraseIdx i).map f
  | [], _ => rfl
  | _ :: _, 0 => rfl
  | x :: l, i + 1 => by simp [map_erase f l i]
theorem perm_erase {α : Type} : ∀ (l : List α) (i : Nat) (h : i < l.length), (l[i] :: l.eraseIdx i).Perm l
  | [], _, h => by simp at h
  | x :: l, 0, _ => by simp
  | x :: l, i + 1, h => by
    have h' : i < l.length := by simpa using h
    have := perm_erase l i h'
    simp only [List.getElem_cons_succ, List.eraseIdx_cons_succ]
    exact (List.Perm.swap x _ _).trans (this.cons x)
theorem shuffled_wf {st : D} (h : Stt st) (n : Nat) (hn : n ≤ 1000) : WF NoE (fun d io => ∃ xs : List Nat, d = .tup (xs.map natD) ∧ xs.Perm (List.range n) ∧ ∃ st', io = some st' ∧ Stt st') (F_law_shuffled [st, .int n]) := by
  unfold F_law_shuffled
  rw [wf_fn]
  unfold B_law_shuffled
  simp [ioOf, intL_nat]
  refine ⟨by omega, by omega, ?_⟩
  refine wp_for (fun i ρ => ∃ (st : D) (le ou : List Nat) (v : Option D), ρ = [some st, some (.int n), some (.lst true (le.map natD)), some (.lst true (ou.map natD)), v] ∧ Stt st ∧ (le ++ ou).Perm (List.range n) ∧ ou.length = i) ?_ ?_ ?_
  · exact ⟨st, List.range n, [], none, rfl, h, by simp, rfl⟩
  · intro i d ρ hd h
    obtain ⟨st, le, ou, v, hρ, h1, h2, h3⟩ := h
    subst hρ
    have hi : i < n := by
      have := (List.getElem?_eq_some_iff.mp hd).1
      simpa using this
    have hlen := h2.length_eq
    simp at hlen
    simp
    refine (take_wf h1 (le.length : Int) (by omega) (by omega)).mono ?_
    rintro d io ⟨v, rfl, v0, v1, st', rfl, h4⟩
    have hj : v.toNat < le.length := by omega
    simp [seqIx_nat v0 v1, List.getElem?_eq_getElem hj]
    refine ⟨by omega, by omega, _, le.eraseIdx v.toNat, ou ++ [le[v.toNat]], ⟨rfl, map_erase _ _ _, by simp⟩, h4, ?_, by simp [h3]⟩
    · have p1 := perm_erase le v.toNat hj
      refine List.Perm.trans ?_ h2
      refine List.Perm.trans ?_ (p1.append_right ou)
      rw [← List.append_assoc]
      exact (List.perm_append_singleton _ _).trans (by simp)
  · intro ρ h
    obtain ⟨st, le, ou, v, hρ, h1, h2, h3⟩ := h
    subst hρ
    simp at h3
    have hlen := h2.length_eq
    simp at hlen
    have e : le = [] := List.eq_nil_of_length_eq_zero (by omega)
    subst e
    simp
    exact ⟨ou, rfl, by simpa using h2, h1⟩
end DC
namespace DC
open PySem L2 DL
theorem intL_get {lo : Int} {m k : Nat} {d : D} (h : (intL lo m)[k]? = some d) : d = .a (.int (lo + k)) ∧ k < m := by
  unfold intL at h
  rw [List.getElem?_map] at h
  cases e : (List.range m)[k]? with
  | none => rw [e] at h; cases h
  | some x =>
    rw [e] at h
    cases h
    have h2 := List.getElem?_eq_some_iff.mp e
    obtain ⟨h3, h4⟩ := h2
    simp at h3 h4
    subst h4
    exact ⟨rfl, h3⟩
theorem natD_get {l : List Nat} {k : Nat} {d : D} (h : (l.map natD)[k]? = some d) : ∃ x, l[k]? = some x ∧ d = natD x := by
  rw [List.getElem?_map] at h
  cases e : l[k]? with
  | none => rw [e] at h; cases h
  | some x => rw [e] at h; cases h; exact ⟨x, rfl, rfl⟩
def prD (p : Nat × Nat) : D := .n .tup false [natD p.1, natD p.2]
@[simp] theorem isF_prD {p : Nat × Nat} : isF (prD p) = true := rfl
@[simp] theorem frz_prD {p : Nat × Nat} : frz (prD p) = prD p := rfl
@[simp] theorem frzL_pr {l : List (Nat × Nat)} : frzL (l.map prD) = l.map prD := frzL_map fun _ => rfl
@[simp] theorem isFL_pr {l : List (Nat × Nat)} : isFL (l.map prD) = true := isFL_map fun _ => rfl
def PsOk (n : Nat) (r : Nat → Nat) (ps : List (Nat × Nat)) : Prop := ∀ p ∈ ps, p.1 < n ∧ p.2 < n ∧ r p.1 < r p.2
def Acyc (n : Nat) (ps : List (Nat × Nat)) : Prop := ∃ r : Nat → Nat, PsOk n r ps
/-- an item of a tuple of numbers -/
theorem ix_tup {l : List Nat} {i : Nat} {x : Nat} {P : D → Prop} (h : l[i]? = some x) (hp : P (natD x)) : SO (gIx (.n .tup false (l.map natD)) (.a (.int i))) P := by
  obtain ⟨hi, e⟩ := List.getElem?_eq_some_iff.mp h
  subst e
  unfold gIx gIxO atI ixN
  have h1 : ¬ ((i : Int) < 0) := by omega
  simp [hi]
  exact hp
theorem idxOf_get {l : List Nat} (nd : l.Nodup) (i : Nat) (h : i < l.length) : l.idxOf l[i] = i := by
  induction l generalizing i with
  | nil => simp at h
  | cons x l ih =>
    have n1 := List.nodup_cons.mp nd
    cases i with
    | zero => simp
    | succ i =>
      have h' : i < l.length := by simpa using h
      have hne : l[i] ≠ x := fun e => n1.1 (e ▸ List.getElem_mem h')
      have hb : (x == l[i]) = false := by simpa using fun e => hne e.symm
      rw [List.getElem_cons_succ, List.idxOf_cons, hb]
      show (if false = true then 0 else _) = _
      simp [ih n1.2 i h']
theorem drawn_wf {st : D} (h : Stt st) (most : Nat) (hm : most ≤ 60) : WF NoE (fun d io => ∃ (n : Nat) (ps : List (Nat × Nat)), d = .tup [natD n, .lst false (ps.map prD)] ∧ n ≤ most ∧ Acyc n ps ∧ ps.length ≤ 10000 ∧ ∃ st', io = some st' ∧ Stt st') (F_law_drawn [st, .int most]) := by
  unfold F_law_drawn
  rw [wf_fn]
  unfold B_law_drawn
  simp [ioOf]
  refine (take_wf h ((most : Int) + 1) (by omega) (by omega)).mono ?_
  rintro d io ⟨v, rfl, v0, v1, st1, rfl, h1⟩
  obtain ⟨n, rfl⟩ := Int.eq_ofNat_of_zero_le v0
  simp
  refine (shuffled_wf h1 n (by omega)).mono ?_
  rintro d io ⟨xs, rfl, hp, st2, rfl, h2⟩
  have nd : xs.Nodup := hp.symm.nodup_iff.mp List.nodup_range
  have hlx : xs.length = n := by simpa using hp.length_eq
  have hlt : ∀ x ∈ xs, x < n := fun x hx => by simpa using hp.mem_iff.mp hx
  simp
  refine ⟨by omega, ?_⟩
  refine wp_for (fun i ρ => ∃ (st : D) (ps : List (Nat × Nat)) (vx vy : Option D), ρ = [some st, some (.int most), some (.int n), some (.tup (xs.map natD)), some (.lst true (ps.map prD)), vx, vy] ∧ Stt st ∧ PsOk n (fun v => xs.idxOf v) ps ∧ ps.length ≤ 100 * i) ?_ ?_ ?_
  · exact ⟨st2, [], none, none, rfl, h2, fun p hp => (nomatch hp), by simp⟩
  · intro i d ρ hd h
    obtain ⟨st, ps, vx, vy, hρ, h3, h4, h5⟩ := h
    subst hρ
    obtain ⟨rfl, hi⟩ := intL_get hd
    simp
    refine ⟨by omega, ?_⟩
    refine wp_for (fun j ρ => ∃ (st : D) (ps : List (Nat × Nat)) (vy : Option D), ρ = [some st, some (.int most), some (.int n), some (.tup (xs.map natD)), some (.lst true (ps.map prD)), some (.a (.int i)), vy] ∧ Stt st ∧ PsOk n (fun v => xs.idxOf v) ps ∧ ps.length ≤ 100 * i + j) ?_ ?_ ?_
    · exact ⟨st, ps, vy, rfl, h3, h4, h5⟩
    · intro j d ρ hd h
      obtain ⟨st, ps, vy, hρ, h3, h4, h5⟩ := h
      subst hρ
      obtain ⟨rfl, hj⟩ := intL_get hd
      have hi2 : i < xs.length := by omega
      have hj2 : i + 1 + j < xs.length := by omega
      simp
      refine (take_wf h3 3 (by decide) (by decide)).mono ?_
      rintro d io ⟨v, rfl, v0, v1, st', rfl, h6⟩
      simp
      split
      · rw [show ((i : Int) + 1 + (j : Int)) = ((i + 1 + j : Nat) : Int) by omega]
        refine ix_tup (List.getElem?_eq_getElem hi2) ?_
        refine ix_tup (List.getElem?_eq_getElem hj2) ?_
        simp
        refine ⟨by omega, _, ps ++ [(xs[i], xs[i + 1 + j])], ⟨rfl, by simp [prD]⟩, h6, ?_, by simp; omega⟩
        intro p hp
        rcases List.mem_append.mp hp with hp | hp
        · exact h4 p hp
        · simp at hp
          subst hp
          refine ⟨hlt _ (List.getElem_mem _), hlt _ (List.getElem_mem _), ?_⟩
          show List.idxOf xs[i] xs < List.idxOf xs[i + 1 + j] xs
          rw [idxOf_get nd i hi2, idxOf_get nd _ hj2]
          omega
      · exact ⟨_, ps, ⟨rfl, rfl⟩, h6, h4, by omega⟩
    · intro ρ h
      obtain ⟨st, ps, vy, hρ, h3, h4, h5⟩ := h
      subst hρ
      simp [intL_len] at h5
      exact ⟨st, ps, ⟨_, _, rfl⟩, h3, h4, by omega⟩
  · intro ρ h
    obtain ⟨st, ps, vx, vy, hρ, h3, h4, h5⟩ := h
    subst hρ
    simp
    rw [intL_len] at h5
    exact ⟨n, ps, ⟨rfl, rfl⟩, by omega, ⟨_, h4⟩, by omega, h3⟩
end DC
namespace DC
open PySem L2 DL
/-! ### rows by number -/
def vec (n : Nat) (f : Nat → D) : List D := (List.range n).map f
@[simp] theorem vec_len {n : Nat} {f : Nat → D} : (vec n f).length = n := by simp [vec]
theorem vec_get {n i : Nat} {f : Nat → D} (h : i < n) : (vec n f)[i]? = some (f i) := by simp [vec, h]
theorem vec_get' {n i : Nat} {f : Nat → D} {d : D} (h : (vec n f)[i]? = some d) : i < n ∧ d = f i := by
  have hi := (List.getElem?_eq_some_iff.mp h).1
  rw [vec_len] at hi
  rw [vec_get hi] at h
  cases h
  exact ⟨hi, rfl⟩
theorem vec_ext {n : Nat} {f g : Nat → D} (h : ∀ i, i < n → f i = g i) : vec n f = vec n g := List.map_congr_left fun i hi => h i (by simpa using hi)
theorem vec_set {n i : Nat} {f : Nat → D} {d : D} : (vec n f).set i d = vec n (fun j => if j = i then d else f j) := by
  apply List.ext_getElem?
  intro j
  by_cases hj : j < n
  · rw [vec_get hj]
    by_cases e : i = j
    · subst e
      rw [List.getElem?_set_self (by rw [vec_len]; exact hj), if_pos rfl]
    · rw [List.getElem?_set_ne e, vec_get hj, if_neg fun z => e z.symm]
  · rw [List.getElem?_eq_none (by rw [List.length_set, vec_len]; omega), List.getElem?_eq_none (by rw [vec_len]; omega)]
theorem isFL_vec {n : Nat} {f : Nat → D} (h : ∀ i, i < n → isF (f i) = true) : isFL (vec n f) = true := isFL_all.mpr fun x hx => by
  obtain ⟨i, hi, e⟩ := List.mem_map.mp hx
  rw [← e]
  exact h i (by simpa using hi)
theorem frzL_eq : ∀ xs : List D, frzL xs = xs.map frz
  | [] => rfl
  | x :: xs => by rw [frzL_cons, frzL_eq xs]; rfl
theorem frzL_vec {n : Nat} {f : Nat → D} : frzL (vec n f) = vec n (fun i => frz (f i)) := by
  rw [frzL_eq]; unfold vec; rw [List.map_map]; rfl
theorem ixN_nat {n i : Nat} (h : i < n) : ixN n (i : Int) = some i := by
  unfold ixN
  have : ((i : Int) < (n : Int)) := by omega
  simp [this]
theorem atI_nat {α : Type} {xs : List α} {i : Nat} {x : α} (h : xs[i]? = some x) : atI xs (i : Int) = some x := by
  unfold atI
  rw [ixN_nat (List.getElem?_eq_some_iff.mp h).1]
  exact h
theorem ixL {xs : List D} {i : Nat} {d : D} {o : Bool} (h : xs[i]? = some d) : gIxO (.n .lst o xs) (.a (.int (i : Int))) = some d := atI_nat h
theorem ixT {xs : List D} {i : Nat} {d : D} {o : Bool} (h : xs[i]? = some d) : gIxO (.n .tup o xs) (.a (.int (i : Int))) = some d := atI_nat h
/-! ### closing a relation, as Warshall does -/
abbrev Tb : Type := Nat → Nat → Bool
def stepT (T : Tb) (y x : Nat) : Tb := fun a b => if a = x then T a b || (T x y && T y b) else T a b
def warX (T : Tb) (y : Nat) : Nat → Tb
  | 0 => T
  | k + 1 => stepT (warX T y k) y k
def war (T : Tb) (n : Nat) : Nat → Tb
  | 0 => T
  | k + 1 => warX (war T n k) k n
def base (ps : List (Nat × Nat)) : Tb := fun x y => decide ((x, y) ∈ ps)
def clo (n : Nat) (ps : List (Nat × Nat)) : Tb := war (base ps) n n
def Up (n : Nat) (r : Nat → Nat) (T : Tb) : Prop := ∀ a b, T a b = true → a < n ∧ b < n ∧ r a < r b
theorem up_step {n : Nat} {r : Nat → Nat} {T : Tb} (h : Up n r T) (y x : Nat) : Up n r (stepT T y x) := by
  intro a b hab
  unfold stepT at hab
  split at hab
  · rename_i e
    subst e
    rw [Bool.or_eq_true, Bool.and_eq_true] at hab
    rcases hab with hab | ⟨h1, h2⟩
    · exact h a b hab
    · exact ⟨(h _ _ h1).1, (h _ _ h2).2.1, Nat.lt_trans (h _ _ h1).2.2 (h _ _ h2).2.2⟩
  · exact h a b hab
theorem up_warX {n : Nat} {r : Nat → Nat} {T : Tb} (h : Up n r T) (y : Nat) : ∀ k, Up n r (warX T y k)
  | 0 => h
  | k + 1 => up_step (up_warX h y k) y k
theorem up_war {n : Nat} {r : Nat → Nat} {T : Tb} (h : Up n r T) : ∀ k, Up n r (war T n k)
  | 0 => h
  | k + 1 => up_warX (up_war h k) k n
theorem up_base {n : Nat} {r : Nat → Nat} {ps : List (Nat × Nat)} (h : PsOk n r ps) : Up n r (base ps) := fun a b hab => h (a, b) (by simpa [base] using hab)
theorem up_clo {n : Nat} {r : Nat → Nat} {ps : List (Nat × Nat)} (h : PsOk n r ps) : Up n r (clo n ps) := up_war (up_base h) n
theorem clo_irr {n : Nat} {ps : List (Nat × Nat)} (h : Acyc n ps) (x : Nat) : clo n ps x x = false := by
  obtain ⟨r, h⟩ := h
  cases e : clo n ps x x with
  | false => rfl
  | true => exact absurd (up_clo h x x e).2.2 (Nat.lt_irrefl _)
/-! ### sets of points as numbers -/
def mask (n : Nat) (f : Nat → Bool) : Nat := (List.range n).foldl (fun m z => if f z = true then m ||| 2 ^ z else m) 0
theorem mask_succ {n : Nat} {f : Nat → Bool} : mask (n + 1) f = if f n = true then mask n f ||| 2 ^ n else mask n f := by
  unfold mask
  rw [List.range_succ, List.foldl_append]
  rfl
theorem mask_bit {f : Nat → Bool} {z : Nat} : ∀ {n : Nat}, (mask n f).testBit z = (decide (z < n) && f z)
  | 0 => by simp [mask]
  | n + 1 => by
    rw [mask_succ]
    have ih := mask_bit (f := f) (z := z) (n := n)
    by_cases hz : z = n
    · subst hz
      cases hf : f z with
      | true => simp [hf, Nat.testBit_or, Nat.testBit_two_pow]
      | false => simp [hf, ih]
    · have h1 : decide (z < n + 1) = decide (z < n) := by
        apply decide_eq_decide.mpr
        omega
      rw [h1]
      split
      · rw [Nat.testBit_or, ih, Nat.testBit_two_pow]
        have : ¬ n = z := fun e => hz e.symm
        simp [this]
      · exact ih
theorem mask_of {n m : Nat} {f : Nat → Bool} (h : ∀ z, m.testBit z = (decide (z < n) && f z)) : m = mask n f := by
  apply Nat.eq_of_testBit_eq
  intro z
  rw [h, mask_bit]
theorem bor_nat (a b : Nat) : Builtin.bitOr (a : Int) (b : Int) = ((a ||| b : Nat) : Int) := by
  unfold Builtin.bitOr Builtin.bitAnd Builtin.bitNot
  have h1 : ¬ (0 : Int) ≤ -(a : Int) - 1 := by omega
  have h2 : ¬ (0 : Int) ≤ -(b : Int) - 1 := by omega
  simp only [decide_eq_false h1, decide_eq_false h2]
  have e1 : (-(-(a : Int) - 1) - 1).toNat = a := by omega
  have e2 : (-(-(b : Int) - 1) - 1).toNat = b := by omega
  rw [e1, e2]
  omega
end DC
namespace DC
open PySem L2 DL
theorem rep1 {n : Nat} {d : D} {P : D → Prop} (hf : isF d = true) (hn : n ≤ 1000000) : SO (gMul (.n .lst true [d]) (.a (.int (n : Int)))) P = P (.lst true (vec n fun _ => d)) := by
  unfold gMul gOr gMulI gII gRep
  have h1 : isFL [d] = true := by simp [hf]
  have e : (List.replicate n [d]).flatten = vec n fun _ => d := by
    have : ∀ m, (List.replicate m [d]).flatten = List.replicate m d := by
      intro m
      induction m with
      | zero => rfl
      | succ m ih => rw [List.replicate_succ, List.flatten_cons, ih]; rfl
    rw [this]
    apply List.ext_getElem?
    intro i
    by_cases hi : i < n
    · rw [vec_get hi, List.getElem?_replicate, if_pos hi]
    · rw [List.getElem?_eq_none (by simp; omega), List.getElem?_eq_none (by rw [vec_len]; omega)]
  have h2 : (-1000000 : Int) ≤ n := by omega
  have h3 : (n : Int) ≤ 1000000 := by omega
  simp [h1, h2, h3, hn, e]
theorem so_ixL {n x : Nat} {f : Nat → D} {o : Bool} {P : D → Prop} (h : x < n) : SO (gIxO (.n .lst o (vec n f)) (.a (.int (x : Int)))) P = P (f x) := by rw [ixL (vec_get h)]; rfl
theorem so_ixLF {n x : Nat} {f : Nat → D} {o : Bool} {P : D → Prop} (h : x < n) (hf : isF (f x) = true) : SO (gIx (.n .lst o (vec n f)) (.a (.int (x : Int)))) P = P (f x) := by
  unfold gIx
  rw [ixL (vec_get h)]
  simp [hf]
theorem so_ixTF {n x : Nat} {f : Nat → D} {o : Bool} {P : D → Prop} (h : x < n) (hf : isF (f x) = true) : SO (gIx (.n .tup o (vec n f)) (.a (.int (x : Int)))) P = P (f x) := by
  unfold gIx
  rw [ixT (vec_get h)]
  simp [hf]
theorem so_ixN {n x : Nat} {P : Nat → Prop} (h : x < n) : SO (ixN n (x : Int)) P = P x := by rw [ixN_nat h]; rfl
theorem o_shl1 {y : Nat} {P : D → Prop} (h : y ≤ 1000000) : SO (gShl (.a (.int 1)) (.a (.int (y : Int)))) P = P (.a (.int ((2 ^ y : Nat) : Int))) := by
  rw [o_shl]
  have : powOk 1 (y : Int) = true := by
    unfold powOk
    have h2 : (y : Int) ≤ 1000000 := by omega
    simp [h2]
  simp [this]
theorem base_take {ps : List (Nat × Nat)} {i : Nat} {p : Nat × Nat} (h : ps[i]? = some p) (a b : Nat) : base (ps.take (i + 1)) a b = (base (ps.take i) a b || decide ((a, b) = p)) := by
  unfold base
  rw [List.take_succ, h]
  simp
theorem mask_or {n m : Nat} {f g : Nat → Bool} (h : ∀ z, z < n → g z = (f z || m.testBit z)) (hm : ∀ z, m.testBit z = true → z < n) : mask n f ||| m = mask n g := by
  apply mask_of
  intro z
  rw [Nat.testBit_or, mask_bit]
  by_cases hz : z < n
  · simp [hz, h z hz]
  · have : m.testBit z = false := by
      cases e : m.testBit z with
      | false => rfl
      | true => exact absurd (hm z e) hz
    simp [hz, this]
theorem mask_congr {n : Nat} {f g : Nat → Bool} (h : ∀ z, z < n → f z = g z) : mask n f = mask n g := mask_of fun z => by
  rw [mask_bit]
  by_cases hz : z < n
  · simp [hz, h z hz]
  · simp [hz]
def mrow (n : Nat) (T : Tb) (x : Nat) : D := .a (.int ((mask n (T x) : Nat) : Int))
@[simp] theorem isF_mrow {n : Nat} {T : Tb} {x : Nat} : isF (mrow n T x) = true := rfl
@[simp] theorem frzL_mrow {n m : Nat} {T : Tb} : frzL (vec m (mrow n T)) = vec m (mrow n T) := by rw [frzL_vec]; rfl
@[simp] theorem isFL_mrow {n m : Nat} {T : Tb} : isFL (vec m (mrow n T)) = true := isFL_vec fun _ _ => rfl
theorem closed_eq {n : Nat} {ps : List (Nat × Nat)} (h : Acyc n ps) (hn : n ≤ 60) (hl : ps.length ≤ 10000) : F_u_closed [.a (.int (n : Int)), .n .lst false (ps.map prD)] = .rt (.tup (vec n (mrow n (clo n ps)))) none := by
  have irr := clo_irr h
  obtain ⟨r, hr⟩ := h
  have up := up_clo hr
  apply wf_eq
  unfold F_u_closed
  rw [wf_fn]
  unfold B_u_closed
  simp [ioOf, itemsOf, hl, rep1 (d := .a (.int 0)) rfl (show n ≤ 1000000 by omega)]
  refine ⟨by omega, ?_⟩
  refine wp_for (fun i ρ => ∃ v3 v4 : Option D, ρ = [some (.a (.int (n : Int))), some (.n .lst false (ps.map prD)), some (.n .lst true (vec n (mrow n (base (ps.take i))))), v3, v4]) ?_ ?_ ?_
  · refine ⟨none, none, ?_⟩
    have e : vec n (mrow n (base (ps.take 0))) = vec n fun _ => .a (.int 0) := vec_ext fun i hi => by
      unfold mrow
      rw [mask_congr (g := fun _ => false) (fun z _ => by simp [base])]
      have : mask n (fun _ => false) = 0 := (mask_of (f := fun _ => false) (fun z => by simp)).symm
      rw [this]; rfl
    rw [e]
  · intro i d ρ hd h
    obtain ⟨v3, v4, hρ⟩ := h
    subst hρ
    rw [List.getElem?_map] at hd
    cases hp : ps[i]? with
    | none => rw [hp] at hd; cases hd
    | some p =>
      rw [hp] at hd
      cases hd
      obtain ⟨h1, h2, _⟩ := hr p (List.mem_of_getElem? hp)
      have h3 : p.2 ≤ 1000000 := by omega
      simp [prD, natD, so_ixL h1, mrow, o_shl1 h3, so_ixN h1, bor_nat, vec_set]
      apply vec_ext
      intro j hj
      unfold mrow
      split
      · rename_i e
        subst e
        rw [show (2 : Int) ^ p.2 = ((2 ^ p.2 : Nat) : Int) by simp, bor_nat]
        congr 3
        apply mask_or
        · intro z hz
          rw [base_take hp, Nat.testBit_two_pow]
          congr 1
          apply decide_eq_decide.mpr
          obtain ⟨a, b⟩ := p
          simp
          exact eq_comm
        · intro z hz
          rw [Nat.testBit_two_pow] at hz
          have : p.2 = z := by simpa using hz
          omega
      · rename_i e
        congr 3
        apply mask_congr
        intro z hz
        rw [base_take hp]
        have : decide ((j, z) = p) = false := decide_eq_false fun q => e (by rw [← q])
        rw [this, Bool.or_false]
  · intro ρ h
    obtain ⟨v3, v4, hρ⟩ := h
    subst hρ
    simp
    refine ⟨by omega, ?_⟩
    refine wp_for (fun k ρ => ∃ v3 v4 : Option D, ρ = [some (.a (.int (n : Int))), some (.n .lst false (ps.map prD)), some (.n .lst true (vec n (mrow n (war (base ps) n k)))), v3, v4]) ?_ ?_ ?_
    · exact ⟨v3, v4, rfl⟩
    · intro y d ρ hd h
      obtain ⟨v3, v4, hρ⟩ := h
      subst hρ
      obtain ⟨rfl, hy⟩ := intL_get hd
      simp
      refine ⟨by omega, ?_⟩
      refine wp_for (fun k ρ => ∃ v3 : Option D, ρ = [some (.a (.int (n : Int))), some (.n .lst false (ps.map prD)), some (.n .lst true (vec n (mrow n (warX (war (base ps) n y) y k)))), v3, some (.a (.int (y : Int)))]) ?_ ?_ ?_
      · exact ⟨v3, rfl⟩
      · intro x d ρ hd h
        obtain ⟨v3, hρ⟩ := h
        subst hρ
        obtain ⟨rfl, hx⟩ := intL_get hd
        have hx0 : (0 : Int) + (x : Int) = (x : Int) := by omega
        simp [so_ixL hx, so_ixL hy, mrow, has_eq, so_ixN hx, bor_nat, vec_set, mask_bit]
        have key : ∀ j z, warX (war (base ps) n y) y (x + 1) j z = if j = x then warX (war (base ps) n y) y x j z || (warX (war (base ps) n y) y x x y && warX (war (base ps) n y) y x y z) else warX (war (base ps) n y) y x j z := fun j z => rfl
        split
        · rename_i hc
          apply vec_ext
          intro j hj
          unfold mrow
          split
          · rename_i e
            subst e
            congr 3
            apply mask_or
            · intro z hz
              rw [key, if_pos rfl, hc.2, mask_bit, Bool.true_and]
              simp [hz]
            · intro z hz
              rw [mask_bit, Bool.and_eq_true] at hz
              exact of_decide_eq_true hz.1
          · rename_i e
            congr 3
            apply mask_congr
            intro z hz
            rw [key, if_neg e]
        · rename_i hc
          apply vec_ext
          intro j hj
          unfold mrow
          congr 3
          apply mask_congr
          intro z hz
          rw [key]
          split
          · rename_i e
            subst e
            cases hT : warX (war (base ps) n y) y j j y with
            | false => simp
            | true => exact absurd ⟨hy, hT⟩ hc
          · rfl
      · intro ρ h
        obtain ⟨v3, hρ⟩ := h
        subst hρ
        rw [intL_len]
        exact ⟨_, _, rfl⟩
    · intro ρ h
      obtain ⟨v3, v4, hρ⟩ := h
      subst hρ
      rw [intL_len]
      simp
      refine ⟨by omega, ?_⟩
      refine wp_for (fun k ρ => ∃ v3 : Option D, ρ = [some (.a (.int (n : Int))), some (.n .lst false (ps.map prD)), some (.n .lst false (vec n (mrow n (clo n ps)))), v3, v4]) ?_ ?_ ?_
      · exact ⟨v3, rfl⟩
      · intro x d ρ hd h
        obtain ⟨v3, hρ⟩ := h
        subst hρ
        obtain ⟨rfl, hx⟩ := intL_get hd
        have hx0 : (0 : Int) + (x : Int) = (x : Int) := by omega
        rw [hx0]
        simp [so_ixLF (f := mrow n (clo n ps)) (o := false) hx rfl]
        simp [mrow, has_eq, mask_bit, irr]
      · intro ρ h
        obtain ⟨v3, hρ⟩ := h
        subst hρ
        simp
end DC
namespace DC
open PySem L2 DL
theorem isint_eq (i : Int) : F_is_integer [.a (.int i)] = .rt (.a (.bl true)) none := by
  apply wf_eq
  unfold F_is_integer
  rw [wf_fn]
  unfold B_is_integer
  simp [ioOf, o_isi (t := "int") (d := .a (.int i)) rfl, isiT]
theorem checked_eq {n : Nat} {ps : List (Nat × Nat)} (h : ∀ p ∈ ps, p.1 < n ∧ p.2 < n) (hl : ps.length ≤ 10000) : F_u_checked_pairs [.a (.int (n : Int)), .n .lst false (ps.map prD)] = .rt (.n .lst false (ps.map prD)) none := by
  apply wf_eq
  unfold F_u_checked_pairs
  rw [wf_fn]
  unfold B_u_checked_pairs
  simp [ioOf, itemsOf, gIsi2, tyN, isiT]
  refine ⟨by omega, ?_⟩
  refine wp_for (fun i ρ => ∃ v3 v4 : Option D, ρ = [some (.a (.int (n : Int))), some (.n .lst false (ps.map prD)), some (.n .lst true ((ps.map prD).take i)), v3, v4]) ?_ ?_ ?_
  · exact ⟨none, none, rfl⟩
  · intro i d ρ hd h
    obtain ⟨v3, v4, hρ⟩ := h
    subst hρ
    rw [List.getElem?_map] at hd
    cases hp : ps[i]? with
    | none => rw [hp] at hd; cases hd
    | some p =>
      rw [hp] at hd
      cases hd
      obtain ⟨h1, h2⟩ := h p (List.mem_of_getElem? hp)
      simp [prD, natD, o_isi (t := "tuple") (d := .n .tup false _) rfl, isiT, itemsOf]
      refine wp_for (fun j ρ => ∃ v4 : Option D, ρ = [some (.a (.int (n : Int))), some (.n .lst false (ps.map prD)), some (.n .lst true ((ps.map prD).take i)), some (.n .tup false [natD p.1, natD p.2]), v4]) ?_ ?_ ?_
      · exact ⟨v4, rfl⟩
      · intro j d ρ hd h
        obtain ⟨v4, hρ⟩ := h
        subst hρ
        have key : ∃ x : Nat, d = .a (.int (x : Int)) ∧ x < n := by
          match j, hd with
          | 0, hd => cases hd; exact ⟨_, rfl, h1⟩
          | 1, hd => cases hd; exact ⟨_, rfl, h2⟩
          | (k + 2), hd => simp at hd
        obtain ⟨x, rfl, hx⟩ := key
        simp [isint_eq]
        exact hx
      · intro ρ h
        obtain ⟨v4, hρ⟩ := h
        subst hρ
        simp
        refine ⟨by omega, ?_⟩
        rw [List.take_succ, List.getElem?_map, hp]
        rfl
  · intro ρ h
    obtain ⟨v3, v4, hρ⟩ := h
    subst hρ
    have e : List.take (ps.map prD).length (ps.map prD) = ps.map prD := List.take_of_length_le (Nat.le_refl _)
    simp only [List.length_map] at e
    simp [e]
theorem place_eq (x : Nat) (hx : x ≤ 100) : F_law_place [.a (.int (x : Int))] = .rt (.a (.int ((2 ^ x : Nat) : Int))) none := by
  apply wf_eq
  unfold F_law_place
  rw [wf_fn]
  unfold B_law_place
  simp [ioOf]
  refine ⟨by omega, ?_⟩
  refine wp_for (fun i ρ => ∃ v : Option D, ρ = [some (.a (.int (x : Int))), some (.a (.int ((2 ^ i : Nat) : Int))), v]) ?_ ?_ ?_
  · exact ⟨none, by simp⟩
  · intro i d ρ hd h
    obtain ⟨v, hρ⟩ := h
    subst hρ
    have hq := intL_get hd
    have hi := hq.2
    have he := hq.1
    subst he
    have b2 : Builtin.Int.intBits (2 : Int) ≤ 2 := bits_c (by decide)
    have b1 := PySem.intBits_pow_le b2 i
    simp
    exact ⟨mulOk_of b1 b2 (by omega), by rw [Int.pow_succ]⟩
  · intro ρ h
    obtain ⟨v, hρ⟩ := h
    subst hρ
    rw [intL_len]
    simp
/-- an order as an object -/
def ordD (n : Nat) (ms : List D) : D := .n (.ins "Order" ["n", "above"]) false [.a (.int (n : Int)), .n .tup false ms]
theorem init_eq {n : Nat} {ps : List (Nat × Nat)} (h : Acyc n ps) (hn : n ≤ 10) (hl : ps.length ≤ 10000) : F_OrderU_initU [.n (.ins "Order" []) true [], .a (.int (n : Int)), .n .lst false (ps.map prD)] = .rt (.a .non) (some (.n (.ins "Order" ["n", "above"]) true [.a (.int (n : Int)), .n .tup false (vec n (mrow n (clo n ps)))])) := by
  have hc := closed_eq h (show n ≤ 60 by omega) hl
  obtain ⟨r, hr⟩ := h
  have hk := checked_eq (n := n) (ps := ps) (fun p hp => ⟨(hr p hp).1, (hr p hp).2.1⟩) hl
  apply wf_eq
  unfold F_OrderU_initU
  rw [wf_fn]
  unfold B_OrderU_initU
  simp [ioOf, isint_eq, hk, hc]
  exact ⟨by omega, by decide +kernel⟩
end DC
namespace DL
open PySem L2
def asA (d : D) (P : At → Prop) : Prop := match d with
  | .a x => P x
  | _ => False
@[simp] theorem asA_a {x : At} {P : At → Prop} : asA (.a x) P = P x := rfl
def asIA (a : At) (P : Int → Prop) : Prop := match a with
  | .int i => P i
  | _ => False
@[simp] theorem asIA_int {i : Int} {P : Int → Prop} : asIA (.int i) P = P i := rfl
section
variable {ρ : DL.Env} {i : Nat} {Q : Ps} {d : D}
@[simp] theorem q_Var {P : At → Prop} : SO (qVar i ρ) P = SO (ρ[i]?) fun o => SO o fun d => asA d P := by
  unfold qVar
  split
  · rename_i x h; rw [h]; rfl
  · rename_i h
    cases e : ρ[i]? with
    | none => rfl
    | some o =>
      cases o with
      | none => rfl
      | some d =>
        cases d with
        | a x => exact absurd e (h x)
        | n _ _ _ => rfl
@[simp] theorem q_Op {f : Int → Int → Int} {g h : DL.Env → Option At} {P : At → Prop} : SO (qOp f g h ρ) P = SO (g ρ) fun a => SO (h ρ) fun b => asIA a fun i => asIA b fun j => P (.int (f i j)) := by
  unfold qOp
  cases e1 : g ρ with
  | none => rfl
  | some a =>
    cases e2 : h ρ with
    | none => cases a <;> rfl
    | some b => cases a <;> cases b <;> rfl
@[simp] theorem p_Sub2 {qa qb : DL.Env → Option At} : WP Q (stSub2 i qa qb d ρ) = SO (ρ[i]?) fun o => SO o fun x => asL x fun xs => SO (qa ρ) fun a => SO (qb ρ) fun b => asIA a fun a => asIA b fun b => SO (ixN xs.length a) fun j => SO (xs[j]?) fun row => asL row fun ys => SO (ixN ys.length b) fun l => isF d = true ∧ Q.nx (ρ.set i (some (.lst true (xs.set j (.lst true (ys.set l d)))))) := by
  unfold stSub2
  split
  · rename_i xs h
    rw [h]
    dsimp only [so_some, asL_lst]
    cases e1 : qa ρ with
    | none => rfl
    | some a =>
      cases e2 : qb ρ with
      | none => cases a <;> rfl
      | some b =>
        cases a with
        | int a =>
          cases b with
          | int b =>
            dsimp only [so_some, asIA_int]
            cases ixN xs.length a with
            | none => rfl
            | some j =>
              dsimp only [so_some]
              split
              · rename_i ys h2
                rw [h2]
                dsimp only [so_some, asL_lst]
                cases ixN ys.length b with
                | none => rfl
                | some l =>
                  dsimp only [so_some]
                  split
                  · rename_i h3; simp [h3]
                  · rename_i h3; simp [h3, WP]
              · rename_i h2
                cases e : xs[j]? with
                | none => rfl
                | some x =>
                  dsimp only [so_some]
                  rw [asL_cases fun ys z => h2 ys (by rw [e, z])]
                  rfl
          | _ => rfl
        | _ => rfl
  · rename_i h
    cases e : ρ[i]? with
    | none => rfl
    | some o =>
      cases o with
      | none => rfl
      | some d =>
        dsimp only [so_some]
        rw [asL_cases fun xs z => h xs (by rw [e, z])]
        rfl
@[simp] theorem w_Yes {E : Exn → DL.Env → Prop} {P : Bool → DL.Env → Prop} : WO E P (dYes ρ) = P true ρ := rfl
@[simp] theorem wipeE_nil : wipeE ρ [] = ρ := rfl
@[simp] theorem wipeE_cons {v : Nat} {vs : List Nat} : wipeE ρ (v :: vs) = (wipeE ρ vs).set v none := rfl
variable {ρ1 : DL.Env} {v : Nat} {vs : List Nat}
@[simp] theorem backE_nil : backE ρ1 [] ρ = ρ := rfl
@[simp] theorem backE_none (h : ρ1[v]? = some none) : backE ρ1 (v :: vs) ρ = backE ρ1 vs ρ := by
  conv => lhs; unfold backE
  rw [h]
@[simp] theorem backE_some (h : ρ1[v]? = some (some d)) (hf : isF d = true) (hl : v < (backE ρ1 vs ρ).length) : backE ρ1 (v :: vs) ρ = (backE ρ1 vs ρ).set v (some d) := by
  conv => lhs; unfold backE
  rw [h]
  simp [hf, hl]
/-- whatever stood in the slot -/
theorem backE_one {o : Option D} (h : ρ1[v]? = some o) (hn : ρ[v]? = some none) : ∃ o', backE ρ1 [v] ρ = ρ.set v o' := by
  have e0 : ρ.set v none = ρ := by
    apply List.ext_getElem?
    intro j
    by_cases e : v = j
    · subst e
      rw [List.getElem?_set_self (List.getElem?_eq_some_iff.mp hn).1, hn]
    · rw [List.getElem?_set_ne e]
  unfold backE
  rw [h]
  cases o with
  | none => exact ⟨none, e0.symm⟩
  | some d =>
    dsimp only
    split
    · exact ⟨some d, rfl⟩
    · exact ⟨none, e0.symm⟩
end
end DL
namespace DC
open PySem L2 DL
theorem intL_vec (n : Nat) : intL 0 n = vec n fun i => .a (.int (i : Int)) := by
  unfold intL vec
  apply List.map_congr_left
  intro a _
  simp
theorem vec_filter {n : Nat} {f : Nat → D} {tb : D → Bool} : (vec n f).filter tb = ((List.range n).filter fun i => tb (f i)).map f := by
  unfold vec
  rw [List.filter_map]
  rfl
theorem vec_all {n : Nat} {f fv : Nat → D} {g : D → D} (h : ∀ i, i < n → g (f i) = fv i) : ((vec n f).filter fun _ => true).map g = vec n fv := by
  rw [List.filter_eq_self.mpr (fun _ _ => rfl)]
  unfold vec
  rw [List.map_map]
  apply List.map_congr_left
  intro i hi
  exact h i (by simpa using hi)
theorem mem_vec {n : Nat} {f : Nat → D} {d : D} (h : d ∈ vec n f) : ∃ i, i < n ∧ d = f i := by
  obtain ⟨i, hi, e⟩ := List.mem_map.mp h
  exact ⟨i, by simpa using hi, e.symm⟩
@[simp] theorem o_itL {o : Bool} {xs : List D} {P : List D → Prop} : SO (itemsOf (.n .lst o xs)) P = (xs.length ≤ 1000000 ∧ P xs) := by
  unfold itemsOf
  by_cases h : xs.length ≤ 1000000 <;> simp [h]
@[simp] theorem o_itT {o : Bool} {xs : List D} {P : List D → Prop} : SO (itemsOf (.n .tup o xs)) P = (xs.length ≤ 1000000 ∧ P xs) := by
  unfold itemsOf
  by_cases h : xs.length ≤ 1000000 <;> simp [h]
def brow (o : Bool) (n : Nat) (T : Tb) (x : Nat) : D := .n .lst o (vec n fun y => .a (.bl (T x y)))
theorem brow_frz {o : Bool} {n : Nat} {T : Tb} {x : Nat} : frz (brow o n T x) = brow false n T x := by
  unfold brow
  rw [frz_n, frzL_vec]
  rfl
theorem brow_congr {o : Bool} {n : Nat} {T T' : Tb} (h : ∀ a b, a < n → b < n → T a b = T' a b) : vec n (brow o n T) = vec n (brow o n T') := vec_ext fun a ha => by
  unfold brow
  congr 1
  exact vec_ext fun b hb => by rw [h a b ha hb]
theorem brow_set {n x y : Nat} {T : Tb} {v : Bool} (hx : x < n) : (vec n (brow true n T)).set x (.n .lst true ((vec n fun y => .a (.bl (T x y))).set y (.a (.bl v)))) = vec n (brow true n fun a b => if a = x ∧ b = y then v else T a b) := by
  rw [vec_set]
  apply vec_ext
  intro a ha
  by_cases e : a = x
  · subst e
    rw [if_pos rfl]
    unfold brow
    rw [vec_set]
    congr 1
    apply vec_ext
    intro b hb
    by_cases e2 : b = y
    · simp [e2]
    · simp [e2]
  · rw [if_neg e]
    unfold brow
    congr 1
    apply vec_ext
    intro b hb
    simp [e]
theorem frzL_brow {o : Bool} {n : Nat} {T : Tb} : frzL (vec n (brow o n T)) = vec n (brow false n T) := by
  rw [frzL_vec]
  exact vec_ext fun _ _ => brow_frz
theorem isFL_brow {n : Nat} {T : Tb} : isFL (vec n (brow false n T)) = true := isFL_vec fun i _ => by
  unfold brow
  rw [isF_n, isFL_vec fun _ _ => rfl]
  rfl
def stepZ (T : Tb) (y x z : Nat) : Tb := fun a b => if a = x ∧ b < z then T x b || (T x y && T y b) else T a b
theorem stepZ_0 {T : Tb} {y x : Nat} : stepZ T y x 0 = T := by
  funext a b
  unfold stepZ
  simp
theorem stepZ_xz {T : Tb} {y x z : Nat} : stepZ T y x z x z = T x z := by simp [stepZ]
theorem stepZ_yz {T : Tb} {y x z : Nat} : stepZ T y x z y z = T y z := by simp [stepZ]
theorem stepZ_xy {T : Tb} {y x z : Nat} : stepZ T y x z x y = T x y := by
  unfold stepZ
  split
  · cases T x y <;> simp
  · rfl
theorem stepZ_succ {T : Tb} {y x z : Nat} {v : Bool} (hv : v = (T x z || (T x y && T y z))) (a b : Nat) : (if a = x ∧ b = z then v else stepZ T y x z a b) = stepZ T y x (z + 1) a b := by
  unfold stepZ
  by_cases e : a = x
  · subst e
    by_cases e2 : b = z
    · subst e2
      simp [hv]
    · by_cases h : b < z
      · simp [e2, h, show b < z + 1 by omega]
      · simp [e2, h, show ¬ b < z + 1 by omega]
  · simp [e]
theorem stepZ_end {T : Tb} {y x n a b : Nat} (hb : b < n) : stepZ T y x n a b = stepT T y x a b := by
  unfold stepZ stepT
  by_cases e : a = x
  · subst e
    simp [hb]
  · simp [e]
theorem law_closed_eqL {n : Nat} {ps : List (Nat × Nat)} (h : ∀ p ∈ ps, p.1 < n ∧ p.2 < n) (hn : n ≤ 60) (hl : ps.length ≤ 100000) : F_law_closed [.a (.int (n : Int)), .n .lst false (ps.map prD)] = .rt (.n .lst false (vec n (brow false n (clo n ps)))) none := by
  apply wf_eq
  unfold F_law_closed
  rw [wf_fn]
  unfold B_law_closed
  simp [ioOf, intL_vec]
  refine ⟨by omega, ?_⟩
  rw [lcL_run (fun _ => true) (fun _ => brow true n (fun _ _ => false) 0)]
  · rw [wo_ok, vec_all (fv := brow true n (fun _ _ => false)) (fun i hi => rfl)]
    simp
    refine ⟨by omega, ?_⟩
    refine wp_for (fun i ρ => ∃ v3 v4 : Option D, ρ = [some (.a (.int (n : Int))), some (.n .lst false (ps.map prD)), some (.n .lst true (vec n (brow true n (base (ps.take i))))), v3, v4, none]) ?_ ?_ ?_
    · refine ⟨none, none, ?_⟩
      have e : vec n (brow true n (base (ps.take 0))) = vec n (brow true n fun _ _ => false) := brow_congr fun a b _ _ => by simp [base]
      rw [e]
    · intro i d ρ hd h
      obtain ⟨v3, v4, hρ⟩ := h
      subst hρ
      rw [List.getElem?_map] at hd
      cases hp : ps[i]? with
      | none => rw [hp] at hd; cases hd
      | some p =>
        rw [hp] at hd
        cases hd
        obtain ⟨h1, h2⟩ := h p (List.mem_of_getElem? hp)
        simp [prD, natD, so_ixN h1, so_ixN h2, vec_get h1, brow]
        refine Eq.trans (brow_set h1) (brow_congr fun a b ha hb => ?_)
        rw [base_take hp]
        obtain ⟨x, y⟩ := p
        by_cases e : a = x ∧ b = y
        · simp [e]
        · rw [if_neg e]
          have : decide ((a, b) = (x, y)) = false := decide_eq_false fun q => e (by simpa using q)
          rw [this, Bool.or_false]
    · intro ρ h
      obtain ⟨v3, v4, hρ⟩ := h
      subst hρ
      simp
      refine ⟨by omega, ?_⟩
      refine wp_for (fun k ρ => ∃ v3 v4 v5 : Option D, ρ = [some (.a (.int (n : Int))), some (.n .lst false (ps.map prD)), some (.n .lst true (vec n (brow true n (war (base ps) n k)))), v3, v4, v5]) ?_ ?_ ?_
      · exact ⟨v3, v4, none, rfl⟩
      · intro y d ρ hd h
        obtain ⟨v3, v4, v5, hρ⟩ := h
        subst hρ
        have hq := vec_get' hd
        have hy := hq.1
        have he := hq.2
        subst he
        simp [intL_vec]
        refine ⟨by omega, ?_⟩
        refine wp_for (fun k ρ => ∃ v3 v5 : Option D, ρ = [some (.a (.int (n : Int))), some (.n .lst false (ps.map prD)), some (.n .lst true (vec n (brow true n (warX (war (base ps) n y) y k)))), v3, some (.a (.int (y : Int))), v5]) ?_ ?_ ?_
        · exact ⟨v3, v5, rfl⟩
        · intro x d ρ hd h
          obtain ⟨v3, v5, hρ⟩ := h
          subst hρ
          have hq := vec_get' hd
          have hx := hq.1
          have he := hq.2
          subst he
          simp [intL_vec]
          refine ⟨by omega, ?_⟩
          generalize hT : warX (war (base ps) n y) y x = T
          refine wp_for (fun k ρ => ∃ v5 : Option D, ρ = [some (.a (.int (n : Int))), some (.n .lst false (ps.map prD)), some (.n .lst true (vec n (brow true n (stepZ T y x k)))), some (.a (.int (x : Int))), some (.a (.int (y : Int))), v5]) ?_ ?_ ?_
          · refine ⟨v5, ?_⟩
            rw [stepZ_0]
          · intro z d ρ hd h
            obtain ⟨v5, hρ⟩ := h
            subst hρ
            have hq := vec_get' hd
            have hz := hq.1
            have he := hq.2
            subst he
            simp [so_ixL hx, so_ixL hy, brow, so_ixL hz, so_ixN hx, so_ixN hz, vec_get hx]
            rw [stepZ_xz, stepZ_xy, stepZ_yz]
            split
            · rename_i h1
              exact (brow_set hx).trans (brow_congr fun a b _ _ => stepZ_succ (by rw [h1]; rfl) a b)
            · rename_i h1
              have h1 : T x z = false := by simpa using h1
              split
              · rename_i h2
                exact (brow_set hx).trans (brow_congr fun a b _ _ => stepZ_succ (by rw [h1, h2]; simp) a b)
              · rename_i h2
                have h2 : T x y = false := by simpa using h2
                exact (brow_set hx).trans (brow_congr fun a b _ _ => stepZ_succ (by rw [h1, h2]; rfl) a b)
          · intro ρ h
            obtain ⟨v5, hρ⟩ := h
            subst hρ
            simp
            refine brow_congr fun a b _ hb => ?_
            rw [stepZ_end hb, ← hT]
            rfl
        · intro ρ h
          obtain ⟨v3, v5, hρ⟩ := h
          subst hρ
          simp
          rfl
      · intro ρ h
        obtain ⟨v3, v4, v5, hρ⟩ := h
        subst hρ
        simp [frzL_brow, isFL_brow]
        rfl
  · intro d hd
    obtain ⟨i, hi, rfl⟩ := mem_vec hd
    simp [intL_vec]
    refine ⟨by omega, ?_⟩
    rw [lcL_run (fun _ => true) (fun _ => .a (.bl false))]
    · rw [wo_ok, vec_all (fv := fun _ => .a (.bl false)) (fun i hi => rfl)]
      simp [brow]
    · intro d hd
      obtain ⟨i, hi, rfl⟩ := mem_vec hd
      simp
theorem law_closed_eq {n : Nat} {ps : List (Nat × Nat)} (h : ∀ p ∈ ps, p.1 < n ∧ p.2 < n) (hn : n ≤ 60) (hl : ps.length ≤ 10000) : F_law_closed [.a (.int (n : Int)), .n .lst false (ps.map prD)] = .rt (.n .lst false (vec n (brow false n (clo n ps)))) none := law_closed_eqL h hn (by omega)
end DC
namespace DC
open PySem L2 DL
def tbI (f : Nat → Bool) : D → Bool
  | .a (.int i) => f i.toNat
  | _ => false
theorem filter_vecI {n : Nat} {f : Nat → Bool} : ((vec n fun i => .a (.int (i : Int))).filter (tbI f)).map (fun d => d) = ((List.range n).filter f).map natD := by
  rw [vec_filter, List.map_map]
  unfold natD
  congr 1
theorem filter_range {f : Nat → Bool} {a : Nat} (h : ∀ z, a ≤ z → f z = false) : ∀ c, a ≤ c → (List.range c).filter f = (List.range a).filter f
  | 0, hc => by
    have : a = 0 := by omega
    rw [this]
  | c + 1, hc => by
    by_cases e : a = c + 1
    · rw [e]
    · rw [List.range_succ, List.filter_append, filter_range h c (by omega)]
      simp [h c (by omega)]
theorem bits_nat_lt (m : Nat) : m < 2 ^ Builtin.Int.intBits (m : Int) := by
  have := PySem.intBits_le_iff.mp (Nat.le_refl (Builtin.Int.intBits (m : Int)))
  simpa using this
theorem shr_bit (m x : Nat) : decide (Builtin.bitAnd ((m : Int) / 2 ^ x) 1 = 1) = m.testBit x := by
  rw [PyProof.Rows.bitAnd_m1, Nat.testBit_eq_decide_div_mod_eq]
  congr 1
  have : ((m : Int) / 2 ^ x) = ((m / 2 ^ x : Nat) : Int) := by simp
  rw [this]
  simp only [eq_iff_iff]
  omega
theorem members_eq {m n : Nat} (hm : m < 2 ^ n) (hn : n ≤ 100) : F_members [.a (.int (m : Int))] = .rt (.n .tup false (((List.range n).filter m.testBit).map natD)) none := by
  have hb : Builtin.Int.intBits (m : Int) ≤ n := PySem.intBits_le_iff.mpr (by simpa using hm)
  have hf : ∀ c, Builtin.Int.intBits (m : Int) ≤ c → (List.range c).filter m.testBit = (List.range (Builtin.Int.intBits (m : Int))).filter m.testBit := fun c hc => filter_range (fun z hz => Nat.testBit_lt_two_pow (Nat.lt_of_lt_of_le (bits_nat_lt m) (Nat.pow_le_pow_right (by decide) hz))) c hc
  apply wf_eq
  unfold F_members
  rw [wf_fn]
  unfold B_members
  simp [ioOf, intL_vec]
  refine ⟨by omega, ?_⟩
  rw [lcL_run (tbI m.testBit) (fun d => d)]
  · rw [wo_ok, filter_vecI, hf n hb]
    simp
  · intro d hd
    obtain ⟨i, hi, rfl⟩ := mem_vec hd
    simp [shr_bit, tbI]
theorem str_na : ¬ ("above" : Str) = "n" := by decide +kernel
theorem fld_above {n : Nat} {ms : List D} {P : D → Prop} (h : isFL ms = true) : SO (gFld "above" (ordD n ms)) P = P (.n .tup false ms) := by
  have hb : (("above" : Str) == ("n" : Str)) = false := by simpa using str_na
  unfold gFld ordD
  simp [List.lookup_cons, hb, h]
theorem fld_n {n : Nat} {ms : List D} {P : D → Prop} : SO (gFld "n" (ordD n ms)) P = P (.a (.int (n : Int))) := by
  unfold gFld ordD
  simp [List.lookup_cons]
theorem isF_ord {n : Nat} {ms : List D} (h : isFL ms = true) : isF (ordD n ms) = true := by
  unfold ordD
  simp [h]
abbrev ordT (n : Nat) (T : Tb) : D := ordD n (vec n (mrow n T))
theorem isF_ordT {n : Nat} {T : Tb} : isF (ordT n T) = true := isF_ord isFL_mrow
theorem less_eq {n x y : Nat} {T : Tb} (hx : x < n) (hy : y < n) : F_Order_less [ordT n T, .a (.int (x : Int)), .a (.int (y : Int))] = .rt (.a (.bl (T x y))) none := by
  apply wf_eq
  unfold F_Order_less
  rw [wf_fn]
  unfold B_Order_less
  simp [ioOf, isF_ordT, fld_above, so_ixTF (f := mrow n T) (o := false) hx rfl]
  simp [mrow, has_eq, mask_bit, hy]
theorem at_most_eq {n x y : Nat} {T : Tb} (hx : x < n) (hy : y < n) : F_Order_at_most [ordT n T, .a (.int (x : Int)), .a (.int (y : Int))] = .rt (.a (.bl (decide (x = y) || T x y))) none := by
  apply wf_eq
  unfold F_Order_at_most
  rw [wf_fn]
  unfold B_Order_at_most
  simp [ioOf, isF_ordT, fld_above, so_ixTF (f := mrow n T) (o := false) hx rfl]
  simp [mrow, has_eq, mask_bit, hy]
  by_cases e : x = y
  · simp [e]
  · simp [e]
    intro q
    omega
theorem asIns_ord {n : Nat} {ms : List D} {P : Str → List Str → List D → Prop} : asIns (ordD n ms) P = P "Order" ["n", "above"] [.a (.int (n : Int)), .n .tup false ms] := rfl
theorem ordD_eq {n : Nat} {ms : List D} : (.n (.ins "Order" ["n", "above"]) false [.a (.int (n : Int)), .n .tup false ms]) = ordD n ms := rfl
theorem nf1 : ¬ ("at_most" : Str) ∈ (["n", "above"] : List Str) := by decide +kernel
theorem nf2 : ¬ ("less" : Str) ∈ (["n", "above"] : List Str) := by decide +kernel
theorem nf3 : ¬ ("related" : Str) ∈ (["n", "above"] : List Str) := by decide +kernel
theorem related_eq {n x y : Nat} {T : Tb} (hx : x < n) (hy : y < n) : F_Order_related [ordT n T, .a (.int (x : Int)), .a (.int (y : Int))] = .rt (.a (.bl (decide (x = y) || T x y || T y x))) none := by
  apply wf_eq
  unfold F_Order_related
  rw [wf_fn]
  unfold B_Order_related
  have f1 : isFL [D.a (.int (n : Int)), .n .tup false (vec n (mrow n T))] = true := by simp
  simp only [w_Meth, w_Call, p_Bind, w_OrV, w_Var, List.map_cons, List.map_nil, List.length_cons, List.length_nil, List.cons_append, List.getElem?_cons_zero, List.getElem?_cons_succ, so_some, isF_ordT, true_and, asIns_ord, nf1, nf2, not_false_eq_true, f1, w_ACons, w_ANil, isF_a, agL_cons, agL_nil, Option.map_some, frzL_cons, frzL_nil, frz_a, ordD_eq, at_most_eq hx hy, less_eq hy hx, wf_rt, asB_bl]
  cases hh : (decide (x = y) || T x y) <;> simp [hh, ioOf]
def anti (n : Nat) (T : Tb) (m : Nat) : Bool := ((List.range n).filter m.testBit).all fun x => decide ((mask n (T x) &&& m) = 0)
theorem filter_nil_all {α : Type} {l : List α} {p : α → Bool} : decide ((l.filter p).length = 0) = l.all fun x => !p x := by
  induction l with
  | nil => rfl
  | cons x l ih =>
    rw [List.filter_cons, List.all_cons, ← ih]
    cases h : p x <;> simp [h]
theorem antichain_eq {n m : Nat} {T : Tb} (hm : m < 2 ^ n) (hn : n ≤ 60) : F_Order_is_antichain [ordT n T, .a (.int (m : Int))] = .rt (.a (.bl (anti n T m))) none := by
  apply wf_eq
  unfold F_Order_is_antichain
  rw [wf_fn]
  unfold B_Order_is_antichain
  simp [ioOf, isF_ordT, members_eq hm (show n ≤ 100 by omega)]
  have hlen : ((List.range n).filter m.testBit).length ≤ n := Nat.le_trans (List.length_filter_le _ _) (by simp)
  refine ⟨by omega, ?_⟩
  rw [lcL_run (tbI fun x => decide ((mask n (T x) &&& m) ≠ 0)) (fun d => d)]
  · rw [wo_ok]
    unfold anti
    simp
    rw [Bool.eq_iff_iff]
    simp [List.filter_eq_nil_iff, tbI, natD]
    constructor
    · intro h x hx
      cases hb : m.testBit x with
      | false => exact .inl rfl
      | true =>
        right
        have := h _ x hx hb rfl
        simpa using this
    · intro h a x hx hb e
      subst e
      rcases h x hx with q | q
      · rw [hb] at q; cases q
      · simp [q]
  · intro d hd
    obtain ⟨x, hx, rfl⟩ := List.mem_map.mp hd
    have hx2 : x < n := by simpa using (List.mem_filter.mp hx).1
    simp [natD, isF_ordT, fld_above, so_ixTF (f := mrow n T) (o := false) hx2 rfl]
    simp [mrow, PySem.W.os_band, tbI]
/-! ### two loops -/
theorem lcA_run {vs : List Nat} {g : D → DL.Env → Option DL.Env} {t : DL.Env → Out Bool} {f : DL.Env → Out D} {ρ : DL.Env} (tb : D → Bool) (fv : D → D) : ∀ (ds acc : List D),
    (∀ d ∈ ds, SO (g d ρ) fun ρ1 => WO NoE (fun b ρ2 => b = tb d ∧ (if tb d = true then WO NoE (fun y ρ3 => y = fv d ∧ wipeE ρ3 vs = ρ) (f ρ2) else wipeE ρ2 vs = ρ)) (t ρ1)) → acc.length + ds.length ≤ cap →
    lcA vs g t f ds ρ acc = .ok (acc ++ (ds.filter tb).map fv) ρ
  | [], acc, _, _ => by simp [lcA]
  | d :: ds, acc, h, hl => by
    have h0 := h d (by simp)
    have hl : acc.length + (ds.length + 1) ≤ cap := hl
    unfold lcA
    cases hg : g d ρ with
    | none => rw [hg] at h0; exact h0.elim
    | some ρ1 =>
      rw [hg] at h0
      dsimp only [so_some] at h0 ⊢
      cases ht : t ρ1 with
      | st => rw [ht] at h0; exact h0.elim
      | ex e ρ2 => rw [ht] at h0; exact h0.elim
      | ok b ρ2 =>
        rw [ht] at h0
        obtain ⟨e1, h1⟩ := h0
        subst e1
        cases hb : tb d with
        | false =>
          rw [hb, if_neg Bool.false_ne_true] at h1
          dsimp only
          rw [h1, lcA_run tb fv ds acc (fun e he => h e (List.mem_cons_of_mem _ he)) (by omega), List.filter_cons, hb]
          rfl
        | true =>
          rw [hb, if_pos rfl] at h1
          dsimp only
          cases hf : f ρ2 with
          | st => rw [hf] at h1; exact h1.elim
          | ex e ρ3 => rw [hf] at h1; exact h1.elim
          | ok y ρ3 =>
            rw [hf] at h1
            obtain ⟨e2, e3⟩ := h1
            subst e2
            dsimp only
            rw [if_pos (by omega), e3, lcA_run tb fv ds (acc ++ [fv d]) (fun e he => h e (List.mem_cons_of_mem _ he)) (by rw [List.length_append, List.length_singleton]; omega), List.filter_cons, hb]
            simp
theorem lcB_run {vs vs1 : List Nat} {g g1 : D → DL.Env → Option DL.Env} {t t1 : DL.Env → Out Bool} {src1 : DL.Env → Out (List D)} {f : DL.Env → Out D} {ρ : DL.Env} (tb : D → Bool) (it : D → List D) (tb1 : D → D → Bool) (fv : D → D → D) (M : Nat) : ∀ (ds acc : List D),
    (∀ d ∈ ds, SO (g d ρ) fun ρ1 => WO NoE (fun b ρ2 => b = tb d ∧ (if tb d = true then WO NoE (fun xs ρ3 => xs = it d ∧ xs.length ≤ M ∧ wipeE (wipeE ρ3 vs1) vs = ρ ∧
      ∀ e ∈ it d, SO (g1 e (wipeE ρ3 vs1)) fun ρ4 => WO NoE (fun b ρ5 => b = tb1 d e ∧ (if tb1 d e = true then WO NoE (fun y ρ6 => y = fv d e ∧ wipeE ρ6 vs1 = wipeE ρ3 vs1) (f ρ5) else wipeE ρ5 vs1 = wipeE ρ3 vs1)) (t1 ρ4)) (src1 ρ2) else wipeE ρ2 vs = ρ)) (t ρ1)) →
    acc.length + ds.length * M ≤ cap →
    lcB vs vs1 g t src1 g1 t1 f ds ρ acc = .ok (acc ++ (ds.filter tb).flatMap fun d => ((it d).filter (tb1 d)).map (fv d)) ρ
  | [], acc, _, _ => by simp [lcB]
  | d :: ds, acc, h, hl => by
    have h0 := h d (by simp)
    have hl : acc.length + (ds.length + 1) * M ≤ cap := hl
    rw [Nat.succ_mul] at hl
    unfold lcB
    cases hg : g d ρ with
    | none => rw [hg] at h0; exact h0.elim
    | some ρ1 =>
      rw [hg] at h0
      dsimp only [so_some] at h0 ⊢
      cases ht : t ρ1 with
      | st => rw [ht] at h0; exact h0.elim
      | ex e ρ2 => rw [ht] at h0; exact h0.elim
      | ok b ρ2 =>
        rw [ht] at h0
        obtain ⟨e1, h1⟩ := h0
        subst e1
        cases hb : tb d with
        | false =>
          rw [hb, if_neg Bool.false_ne_true] at h1
          dsimp only
          rw [h1, lcB_run tb it tb1 fv M ds acc (fun e he => h e (List.mem_cons_of_mem _ he)) (by omega), List.filter_cons, hb]
          rfl
        | true =>
          rw [hb, if_pos rfl] at h1
          dsimp only
          cases hs : src1 ρ2 with
          | st => rw [hs] at h1; exact h1.elim
          | ex e ρ3 => rw [hs] at h1; exact h1.elim
          | ok xs ρ3 =>
            rw [hs] at h1
            obtain ⟨e2, e3, e4, e5⟩ := h1
            subst e2
            dsimp only
            rw [lcA_run (tb1 d) (fv d) (it d) acc e5 (by omega)]
            dsimp only
            have hlen : (((it d).filter (tb1 d)).map (fv d)).length ≤ M := by
              rw [List.length_map]
              exact Nat.le_trans (List.length_filter_le _ _) e3
            rw [e4, lcB_run tb it tb1 fv M ds _ (fun e he => h e (List.mem_cons_of_mem _ he)) (by rw [List.length_append]; omega), List.filter_cons, hb]
            simp
theorem w_Lc2 {P : D → DL.Env → Prop} {vs vs1 : List Nat} {src src1 : DL.Env → Out (List D)} {g g1 : D → DL.Env → Option DL.Env} {t t1 : DL.Env → Out Bool} {f : DL.Env → Out D} {ρ : DL.Env} :
    WO E P (dLc2 vs vs1 src g t src1 g1 t1 f ρ) = WO E (fun ds ρ1 => WO NoE (fun ys ρ2 => P (.lst true ys) (backE ρ1 vs (wipeE ρ2 vs))) (lcB vs vs1 g t src1 g1 t1 f ds (wipeE ρ1 vs) [])) (src ρ) := by
  unfold dLc2
  cases src ρ with
  | st => rfl
  | ex e ρ1 => rfl
  | ok ds ρ1 =>
    dsimp only [wo_ok]
    cases lcB vs vs1 g t src1 g1 t1 f ds (wipeE ρ1 vs) [] <;> rfl
def tb2 (f : Nat → Nat → Bool) : D → D → Bool
  | .a (.int i), .a (.int j) => f i.toNat j.toNat
  | _, _ => false
def chn (n : Nat) (T : Tb) (m : Nat) : Bool := ((List.range n).filter m.testBit).all fun x => ((List.range n).filter m.testBit).all fun y => decide (x = y) || T x y || T y x
theorem chain_eq {n m : Nat} {T : Tb} (hm : m < 2 ^ n) (hn : n ≤ 60) : F_Order_is_chain [ordT n T, .a (.int (m : Int))] = .rt (.a (.bl (chn n T m))) none := by
  apply wf_eq
  unfold F_Order_is_chain
  rw [wf_fn]
  unfold B_Order_is_chain
  simp [ioOf, isF_ordT, members_eq hm (show n ≤ 100 by omega)]
  have hlen : ((List.range n).filter m.testBit).length ≤ n := Nat.le_trans (List.length_filter_le _ _) (by simp)
  rw [w_Lc2]
  generalize hpt : (List.range n).filter m.testBit = pt at *
  have hmem : ∀ x ∈ pt, x < n := fun x hx => by rw [← hpt] at hx; simpa using (List.mem_filter.mp hx).1
  simp
  refine ⟨by omega, ?_⟩
  rw [lcB_run (fun _ => true) (fun _ => pt.map natD) (tb2 fun x y => !(decide (x = y) || T x y || T y x)) (fun _ _ => .a (.int 1)) n]
  · rw [wo_ok]
    unfold chn
    rw [hpt]
    simp
    rw [Bool.eq_iff_iff]
    simp [tb2, natD]
    constructor
    · intro h x hx y hy
      by_cases e : x = y
      · exact .inl (.inl e)
      · cases e2 : T x y with
        | true => exact .inl (.inr rfl)
        | false => exact .inr (h x hx y hy e e2)
    · intro h x hx y hy e e2
      rcases h x hx y hy with (q | q) | q
      · exact absurd q e
      · rw [e2] at q; cases q
      · exact q
  · intro d hd
    obtain ⟨x, hx, rfl⟩ := List.mem_map.mp hd
    have hx2 := hmem x hx
    simp
    refine ⟨by omega, hlen, fun y hy => ?_⟩
    have hy2 := hmem y hy
    refine ⟨isF_ordT, ?_⟩
    rw [asIns_ord]
    refine ⟨⟨rfl, nf3, by simp⟩, ?_⟩
    show WF _ _ (F_Order_related [ordT n T, .a (.int (x : Int)), .a (.int (y : Int))])
    rw [related_eq hx2 hy2]
    simp [tb2, natD]
  · simp
    exact Nat.le_trans (Nat.mul_le_mul (Nat.le_trans hlen hn) hn) (by decide)
end DC
namespace DC
open PySem L2 DL
/-! ### the closing is the least transitive relation -/
theorem warX_eq (T : Tb) (y : Nat) : ∀ k a b, warX T y k a b = if a < k then T a b || (T a y && T y b) else T a b
  | 0, a, b => by simp [warX]
  | k + 1, a, b => by
    have ih := warX_eq T y k
    show stepT (warX T y k) y k a b = _
    unfold stepT
    by_cases e : a = k
    · subst e
      rw [if_pos rfl, ih a b, ih a y, ih y b]
      simp only [Nat.lt_irrefl, if_false, if_pos (Nat.lt_succ_self a)]
      by_cases h : y < a
      · rw [if_pos h]
        cases T a b <;> cases T a y <;> cases T y b <;> cases T y y <;> rfl
      · rw [if_neg h]
    · rw [if_neg e, ih a b]
      by_cases h : a < k
      · rw [if_pos h, if_pos (by omega)]
      · rw [if_neg h, if_neg (by omega)]
theorem war_bd {n : Nat} {T : Tb} (h : ∀ a b, T a b = true → a < n ∧ b < n) : ∀ k a b, war T n k a b = true → a < n ∧ b < n
  | 0, a, b, e => h a b e
  | k + 1, a, b, e => by
    have ih := war_bd h k
    have e : warX (war T n k) k n a b = true := e
    rw [warX_eq] at e
    split at e
    · rename_i ha
      rw [Bool.or_eq_true, Bool.and_eq_true] at e
      rcases e with e | ⟨e1, e2⟩
      · exact ih a b e
      · exact ⟨ha, (ih _ _ e2).2⟩
    · exact ih a b e
theorem war_step {n : Nat} {T : Tb} (h : ∀ a b, T a b = true → a < n ∧ b < n) (k a b : Nat) : war T n (k + 1) a b = true ↔ war T n k a b = true ∨ (war T n k a k = true ∧ war T n k k b = true) := by
  show warX (war T n k) k n a b = true ↔ _
  rw [warX_eq]
  split
  · rw [Bool.or_eq_true, Bool.and_eq_true]
  · rename_i ha
    constructor
    · exact fun e => .inl e
    · rintro (e | ⟨e, _⟩)
      · exact e
      · exact absurd (war_bd h k _ _ e).1 ha
theorem war_thru {n : Nat} {T : Tb} (h : ∀ a b, T a b = true → a < n ∧ b < n) : ∀ k a m b, m < k → war T n k a m = true → war T n k m b = true → war T n k a b = true
  | 0, _, _, _, hm, _, _ => absurd hm (by omega)
  | k + 1, a, m, b, hm, e1, e2 => by
    have ih := war_thru h k
    rw [war_step h] at e1 e2 ⊢
    by_cases e : m = k
    · subst e
      have f1 : war T n m a m = true := by
        rcases e1 with e1 | e1
        · exact e1
        · exact e1.1
      have f2 : war T n m m b = true := by
        rcases e2 with e2 | e2
        · exact e2
        · exact e2.2
      exact .inr ⟨f1, f2⟩
    · have hm : m < k := by omega
      rcases e1 with e1 | ⟨e1, e1'⟩
      · rcases e2 with e2 | ⟨e2, e2'⟩
        · exact .inl (ih a m b hm e1 e2)
        · exact .inr ⟨ih a m k hm e1 e2, e2'⟩
      · rcases e2 with e2 | ⟨e2, e2'⟩
        · exact .inr ⟨e1, ih k m b hm e1' e2⟩
        · exact .inr ⟨e1, e2'⟩
def Bd (n : Nat) (ps : List (Nat × Nat)) : Prop := ∀ p ∈ ps, p.1 < n ∧ p.2 < n
theorem Acyc.bd {n : Nat} {ps : List (Nat × Nat)} (h : Acyc n ps) : Bd n ps := by
  obtain ⟨r, hr⟩ := h
  exact fun p hp => ⟨(hr p hp).1, (hr p hp).2.1⟩
theorem base_bd {n : Nat} {ps : List (Nat × Nat)} (h : Bd n ps) (a b : Nat) (e : base ps a b = true) : a < n ∧ b < n := h (a, b) (by simpa [base] using e)
theorem clo_bd {n : Nat} {ps : List (Nat × Nat)} (h : Bd n ps) {a b : Nat} (e : clo n ps a b = true) : a < n ∧ b < n := war_bd (base_bd h) n a b e
theorem clo_trans {n : Nat} {ps : List (Nat × Nat)} (h : Bd n ps) {a m b : Nat} (e1 : clo n ps a m = true) (e2 : clo n ps m b = true) : clo n ps a b = true :=
  war_thru (base_bd h) n a m b (clo_bd h e2).1 e1 e2
theorem war_base {n : Nat} {T : Tb} (h : ∀ a b, T a b = true → a < n ∧ b < n) {a b : Nat} (e : T a b = true) : ∀ k, war T n k a b = true
  | 0 => e
  | k + 1 => (war_step h k a b).mpr (.inl (war_base h e k))
theorem clo_base {n : Nat} {ps : List (Nat × Nat)} (h : Bd n ps) {p : Nat × Nat} (hp : p ∈ ps) : clo n ps p.1 p.2 = true := war_base (base_bd h) (by simpa [base] using hp) n
theorem war_least {n : Nat} {T : Tb} (h : ∀ a b, T a b = true → a < n ∧ b < n) {R : Nat → Nat → Prop} (h0 : ∀ a b, T a b = true → R a b) (ht : ∀ a m b, R a m → R m b → R a b) : ∀ k a b, war T n k a b = true → R a b
  | 0, a, b, e => h0 a b e
  | k + 1, a, b, e => by
    have ih := war_least h h0 ht k
    rcases (war_step h k a b).mp e with e | ⟨e1, e2⟩
    · exact ih a b e
    · exact ht a k b (ih _ _ e1) (ih _ _ e2)
theorem clo_least {n : Nat} {ps : List (Nat × Nat)} (h : Bd n ps) {R : Nat → Nat → Prop} (h0 : ∀ p ∈ ps, R p.1 p.2) (ht : ∀ a m b, R a m → R m b → R a b) {a b : Nat} (e : clo n ps a b = true) : R a b :=
  war_least (base_bd h) (fun a b e => h0 (a, b) (by simpa [base] using e)) ht n a b e
theorem Acyc.up {n : Nat} {ps : List (Nat × Nat)} (h : Acyc n ps) : ∃ r : Nat → Nat, Up n r (clo n ps) := by
  obtain ⟨r, hr⟩ := h
  exact ⟨r, up_clo hr⟩
/-- the covering pairs close to the same relation -/
def covs (n : Nat) (T : Tb) : Nat → Nat → Bool := fun x y => T x y && (List.range n).all fun z => !(T x z && T z y)
theorem covs_clo {n : Nat} {ps cs : List (Nat × Nat)} (h : Acyc n ps) (hc : ∀ x y, (x, y) ∈ cs ↔ covs n (clo n ps) x y = true) : clo n cs = clo n ps := by
  have hb := h.bd
  have sub : ∀ p ∈ cs, clo n ps p.1 p.2 = true := fun p hp => by
    have := (hc p.1 p.2).mp hp
    unfold covs at this
    rw [Bool.and_eq_true] at this
    exact this.1
  have hbc : Bd n cs := fun p hp => clo_bd hb (sub p hp)
  obtain ⟨r, up⟩ := h.up
  have key : ∀ (k a b : Nat), r b - r a ≤ k → clo n ps a b = true → clo n cs a b = true := by
    intro k
    induction k with
    | zero =>
      intro a b hk e
      have := (up a b e).2.2
      omega
    | succ k ih =>
      intro a b hk e
      by_cases hcov : covs n (clo n ps) a b = true
      · exact clo_base (p := (a, b)) hbc ((hc a b).mpr hcov)
      · unfold covs at hcov
        rw [e, Bool.true_and] at hcov
        have : ∃ z, z ∈ List.range n ∧ (clo n ps a z && clo n ps z b) = true := by
          false_or_by_contra
          rename_i hno
          apply hcov
          rw [List.all_eq_true]
          intro z hz
          cases hh : (clo n ps a z && clo n ps z b) with
          | false => rfl
          | true => exact absurd ⟨z, hz, hh⟩ hno
        obtain ⟨z, _, hz⟩ := this
        rw [Bool.and_eq_true] at hz
        have u1 := (up a z hz.1).2.2
        have u2 := (up z b hz.2).2.2
        exact clo_trans hbc (ih a z (by omega) hz.1) (ih z b (by omega) hz.2)
  funext a b
  rw [Bool.eq_iff_iff]
  constructor
  · exact fun e => clo_least (R := fun a b => clo n ps a b = true) hbc sub (fun a m b h1 h2 => clo_trans hb h1 h2) e
  · exact fun e => key (r b - r a) a b (Nat.le_refl _) e
end DC
namespace DC
open PySem L2 DL
/-! ### sets from points -/
def setm (l : List Nat) : Nat := l.foldl (fun m z => m ||| 2 ^ z) 0
theorem mask_setm (n : Nat) (f : Nat → Bool) : mask n f = setm ((List.range n).filter f) := by
  unfold mask setm
  rw [List.foldl_filter]
theorem foldl_take {α β : Type} {g : β → α → β} {b : β} {l : List α} {i : Nat} {x : α} (h : l[i]? = some x) : (l.take (i + 1)).foldl g b = g ((l.take i).foldl g b) x := by
  rw [List.take_succ, h, List.foldl_append]
  rfl
theorem set_of_eq {k : Kd} (hk : k = .lst ∨ k = .tup) {l : List Nat} (hl : l.length ≤ 1000000) (hb : ∀ x ∈ l, x ≤ 1000000) : F_set_of [.n k false (l.map natD)] = .rt (.a (.int ((setm l : Nat) : Int))) none := by
  apply wf_eq
  unfold F_set_of
  rw [wf_fn]
  unfold B_set_of
  have hi : ∀ P : List D → Prop, SO (itemsOf (.n k false (l.map natD))) P = P (l.map natD) := by
    intro P
    rcases hk with e | e <;> subst e <;> simp [hl]
  simp [ioOf, hi]
  refine wp_for (fun i ρ => ∃ v : Option D, ρ = [some (.n k false (l.map natD)), some (.a (.int (((l.take i).foldl (fun m z => m ||| 2 ^ z) 0 : Nat) : Int))), v]) ?_ ?_ ?_
  · exact ⟨none, by simp⟩
  · intro i d ρ hd h
    obtain ⟨v, hρ⟩ := h
    subst hρ
    obtain ⟨x, hx, e⟩ := natD_get hd
    subst e
    have hx2 := hb x (List.mem_of_getElem? hx)
    rw [foldl_take hx]
    simp [natD, o_shl1 hx2]
    rw [show (2 : Int) ^ x = ((2 ^ x : Nat) : Int) by simp, bor_nat]
  · intro ρ h
    obtain ⟨v, hρ⟩ := h
    subst hρ
    simp [setm]
def sumb (l : List Nat) : Nat := l.foldl (fun m z => m + 2 ^ z) 0
theorem mask_lt (n : Nat) (f : Nat → Bool) : mask n f < 2 ^ n := by
  apply Nat.lt_pow_two_of_testBit
  intro i hi
  rw [mask_bit]
  simp [show ¬ i < n by omega]
theorem mask_sumb (f : Nat → Bool) : ∀ n, mask n f = sumb ((List.range n).filter f)
  | 0 => rfl
  | n + 1 => by
    have ih := mask_sumb f n
    rw [mask_succ, List.range_succ, List.filter_append]
    unfold sumb at ih ⊢
    rw [List.foldl_append, ← ih]
    cases h : f n with
    | false => simp [h]
    | true =>
      simp [h]
      have := Nat.two_pow_add_eq_or_of_lt (mask_lt n f) 1
      rw [Nat.mul_one] at this
      rw [Nat.or_comm, ← this, Nat.add_comm]
theorem law_bits_eq {k : Kd} (hk : k = .lst ∨ k = .tup) {l : List Nat} (hl : l.length ≤ 1000000) (hb : ∀ x ∈ l, x ≤ 100) : F_law_bits [.n k false (l.map natD)] = .rt (.a (.int ((sumb l : Nat) : Int))) none := by
  apply wf_eq
  unfold F_law_bits
  rw [wf_fn]
  unfold B_law_bits
  have hi : ∀ P : List D → Prop, SO (itemsOf (.n k false (l.map natD))) P = P (l.map natD) := by
    intro P
    rcases hk with e | e <;> subst e <;> simp [hl]
  simp [ioOf, hi]
  refine wp_for (fun i ρ => ∃ v : Option D, ρ = [some (.n k false (l.map natD)), some (.a (.int (((l.take i).foldl (fun m z => m + 2 ^ z) 0 : Nat) : Int))), v]) ?_ ?_ ?_
  · exact ⟨none, by simp⟩
  · intro i d ρ hd h
    obtain ⟨v, hρ⟩ := h
    subst hρ
    obtain ⟨x, hx, e⟩ := natD_get hd
    subst e
    have hx2 := hb x (List.mem_of_getElem? hx)
    rw [foldl_take hx]
    simp [natD, place_eq x hx2]
  · intro ρ h
    obtain ⟨v, hρ⟩ := h
    subst hρ
    simp [sumb]
end DC
namespace DC
open PySem L2 DL
theorem mask_members {n : Nat} {f : Nat → Bool} (hn : n ≤ 100) : F_members [.a (.int ((mask n f : Nat) : Int))] = .rt (.n .tup false (((List.range n).filter f).map natD)) none := by
  rw [members_eq (mask_lt n f) hn]
  have : (List.range n).filter (mask n f).testBit = (List.range n).filter f := List.filter_congr fun x hx => by
    rw [mask_bit]
    simp [List.mem_range.mp hx]
  rw [this]
def rowp (n : Nat) (T : Tb) (x : Nat) : List (Nat × Nat) := ((List.range n).filter (T x)).map fun y => (x, y)
def prs (n : Nat) (T : Tb) : List (Nat × Nat) := (List.range n).flatMap (rowp n T)
theorem rowp_len {n : Nat} {T : Tb} {x : Nat} : (rowp n T x).length ≤ n := by
  unfold rowp
  rw [List.length_map]
  exact Nat.le_trans (List.length_filter_le _ _) (by simp)
theorem prs_take {n : Nat} {T : Tb} {x : Nat} : (List.range (x + 1)).flatMap (rowp n T) = (List.range x).flatMap (rowp n T) ++ rowp n T x := by
  rw [List.range_succ, List.flatMap_append]
  simp
theorem prs_len {n : Nat} {T : Tb} : ∀ x, ((List.range x).flatMap (rowp n T)).length ≤ x * n
  | 0 => by simp
  | x + 1 => by
    rw [prs_take, List.length_append, Nat.succ_mul]
    exact Nat.add_le_add (prs_len x) rowp_len
theorem pairs_eq {n : Nat} {T : Tb} (hn : n ≤ 60) : F_Order_pairs [ordT n T] = .rt (.n .tup false ((prs n T).map prD)) none := by
  apply wf_eq
  unfold F_Order_pairs
  rw [wf_fn]
  unfold B_Order_pairs
  simp [ioOf, isF_ordT, fld_n, intL_vec]
  refine ⟨by omega, ?_⟩
  refine wp_for (fun i ρ => ∃ v2 v3 : Option D, ρ = [some (ordT n T), some (.n .lst true (((List.range i).flatMap (rowp n T)).map prD)), v2, v3]) ?_ ?_ ?_
  · exact ⟨none, none, rfl⟩
  · intro x d ρ hd h
    obtain ⟨v2, v3, hρ⟩ := h
    subst hρ
    have hq := vec_get' hd
    have hx := hq.1
    have he := hq.2
    subst he
    have hlen : ((List.range n).filter (T x)).length ≤ n := Nat.le_trans (List.length_filter_le _ _) (by simp)
    simp [isF_ordT, fld_above, so_ixTF (f := mrow n T) (o := false) hx rfl]
    simp [mrow, mask_members (show n ≤ 100 by omega)]
    refine ⟨by omega, ?_⟩
    have hl0 := prs_len (n := n) (T := T) x
    have hx60 : x * n ≤ 3600 := Nat.mul_le_mul (show x ≤ 60 by omega) hn
    refine wp_for (fun i ρ => ∃ v3 : Option D, ρ = [some (ordT n T), some (.n .lst true (((List.range x).flatMap (rowp n T) ++ (rowp n T x).take i).map prD)), some (.a (.int (x : Int))), v3]) ?_ ?_ ?_
    · exact ⟨v3, by simp⟩
    · intro i d ρ hd h
      obtain ⟨v3, hρ⟩ := h
      subst hρ
      obtain ⟨y, hy, e⟩ := natD_get hd
      subst e
      have hr : (rowp n T x)[i]? = some (x, y) := by
        unfold rowp
        rw [List.getElem?_map, hy]
        rfl
      have hi : i < n := by
        have := (List.getElem?_eq_some_iff.mp hy).1
        omega
      rw [List.take_succ, hr]
      generalize (List.range x).flatMap (rowp n T) = A at *
      simp [natD, prD]
      omega
    · intro ρ h
      obtain ⟨v3, hρ⟩ := h
      subst hρ
      have e : (rowp n T x).take (((List.range n).filter (T x)).map natD).length = rowp n T x := List.take_of_length_le (by simp [rowp])
      rw [e]
      exact ⟨some (.a (.int (x : Int))), v3, by rw [prs_take]⟩
  · intro ρ h
    obtain ⟨v2, v3, hρ⟩ := h
    subst hρ
    simp [prs]
theorem below_eq {n : Nat} {T : Tb} (hn : n ≤ 60) : F_Order_below [ordT n T] = .rt (.n .tup false (vec n (mrow n fun y x => T x y))) none := by
  apply wf_eq
  unfold F_Order_below
  rw [wf_fn]
  unfold B_Order_below
  simp [ioOf, isF_ordT, fld_n, intL_vec]
  refine ⟨by omega, ?_⟩
  rw [lcL_run (fun _ => true) (fun d => match d with | .a (.int y) => mrow n (fun y x => T x y) y.toNat | _ => d)]
  · rw [wo_ok, vec_all (fv := mrow n fun y x => T x y) (fun i hi => by simp)]
    simp
  · intro d hd
    obtain ⟨y, hy, rfl⟩ := mem_vec hd
    simp [isF_ordT, fld_n, intL_vec]
    refine ⟨by omega, ?_⟩
    rw [lcL_run (tbI fun x => T x y) (fun d => d)]
    · rw [wo_ok, filter_vecI]
      simp
      have hlen : ((List.range n).filter fun x => T x y).length ≤ n := Nat.le_trans (List.length_filter_le _ _) (by simp)
      rw [set_of_eq (.inl rfl) (by omega) (fun x hx => by have := List.mem_range.mp (List.mem_filter.mp hx).1; omega)]
      simp [mrow, mask_setm]
    · intro d hd
      obtain ⟨x, hx, rfl⟩ := mem_vec hd
      simp [isF_ordT, fld_above, so_ixTF (f := mrow n T) (o := false) hx rfl]
      simp [mrow, has_eq, mask_bit, hy, tbI]
theorem g_row {n u : Nat} {T : Tb} {P : D → Prop} (hu : u < n) : SO (gIx (.n .lst false (vec n (brow false n T))) (.a (.int (u : Int)))) P = P (brow false n T u) := so_ixLF hu (by unfold brow; rw [isF_n, isFL_vec fun _ _ => rfl]; rfl)
theorem g_cell {n u v : Nat} {T : Tb} {P : D → Prop} (hv : v < n) : SO (gIx (brow false n T u) (.a (.int (v : Int)))) P = P (.a (.bl (T u v))) := so_ixLF hv rfl
theorem law_above_eq {n : Nat} {T : Tb} (hn : n ≤ 60) : F_law_above [.n .lst false (vec n (brow false n T))] = .rt (.n .tup false (vec n (mrow n T))) none := by
  apply wf_eq
  unfold F_law_above
  rw [wf_fn]
  unfold B_law_above
  simp [ioOf, isFL_brow, intL_vec]
  refine ⟨by omega, ?_⟩
  rw [lcL_run (fun _ => true) (fun d => match d with | .a (.int y) => mrow n T y.toNat | _ => d)]
  · rw [wo_ok, vec_all (fv := mrow n T) (fun i hi => by simp)]
    simp
  · intro d hd
    obtain ⟨x, hx, rfl⟩ := mem_vec hd
    simp [intL_vec]
    refine ⟨by omega, ?_⟩
    rw [lcL_run (tbI fun y => T x y) (fun d => d)]
    · rw [wo_ok, filter_vecI]
      simp
      have hlen : ((List.range n).filter fun y => T x y).length ≤ n := Nat.le_trans (List.length_filter_le _ _) (by simp)
      rw [law_bits_eq (.inl rfl) (by omega) (fun y hy => by have := List.mem_range.mp (List.mem_filter.mp hy).1; omega)]
      simp [mrow, mask_sumb]
    · intro d hd
      obtain ⟨y, hy, rfl⟩ := mem_vec hd
      simp [isFL_brow, g_row hx, g_cell hy, tbI]
theorem maximal_eq {n : Nat} {T : Tb} (hn : n ≤ 60) : F_Order_maximal [ordT n T] = .rt (.a (.int ((mask n (fun x => decide (mask n (T x) = 0)) : Nat) : Int))) none := by
  apply wf_eq
  unfold F_Order_maximal
  rw [wf_fn]
  unfold B_Order_maximal
  simp [ioOf, isF_ordT, fld_n, intL_vec]
  refine ⟨by omega, ?_⟩
  rw [lcL_run (tbI fun x => decide (mask n (T x) = 0)) (fun d => d)]
  · rw [wo_ok, filter_vecI]
    simp
    have hlen : ((List.range n).filter fun x => decide (mask n (T x) = 0)).length ≤ n := Nat.le_trans (List.length_filter_le _ _) (by simp)
    rw [set_of_eq (.inl rfl) (by omega) (fun x hx => by have := List.mem_range.mp (List.mem_filter.mp hx).1; omega)]
    simp [mask_setm]
  · intro d hd
    obtain ⟨x, hx, rfl⟩ := mem_vec hd
    simp [isF_ordT, fld_above, so_ixTF (f := mrow n T) (o := false) hx rfl]
    simp [mrow, tbI]
end DC
namespace DC
open PySem L2 DL
/-! ### a value is equal to itself -/
theorem eqA_refl (x : At) : eqA x x = true := by cases x <;> simp [eqA]
mutual
theorem eqD_refl : ∀ (n : Nat) (d : D), pD n d = true → eqD d d = true
  | _, .a x, _ => by rw [eqD]; exact eqA_refl x
  | 0, .n .tup _ _, h => by simp [pD] at h
  | 0, .n .lst _ _, h => by simp [pD] at h
  | n + 1, .n .tup _ xs, h => by
    rw [eqD]
    exact eqDL_refl n xs (by simpa [pD] using h)
  | n + 1, .n .lst _ xs, h => by
    rw [eqD]
    exact eqDL_refl n xs (by simpa [pD] using h)
  | _, .n .scr _ _, h => by simp [pD] at h
  | _, .n (.dct _) _ _, h => by simp [pD] at h
  | _, .n (.ins _ _) _ _, h => by simp [pD] at h
theorem eqDL_refl : ∀ (n : Nat) (xs : List D), pDL n xs = true → eqDL xs xs = true
  | _, [], _ => by simp [eqDL]
  | n, x :: xs, h => by
    rw [pDL, Bool.and_eq_true] at h
    rw [eqDL, eqD_refl n x h.1, eqDL_refl n xs h.2]
    rfl
end
theorem pDL_all {m : Nat} : ∀ {xs : List D}, (∀ x ∈ xs, pD m x = true) → pDL m xs = true
  | [], _ => by simp [pDL]
  | x :: xs, h => by
    rw [pDL, h x (by simp), pDL_all fun y hy => h y (List.mem_cons_of_mem _ hy)]
    rfl
theorem ne_same {k : Kd} {o o' : Bool} {xs : List D} {P : D → Prop} (hk : k = .tup ∨ k = .lst) (h : ∀ x ∈ xs, pD 59 x = true) : SO (gNe (.n k o xs) (.n k o' xs)) P = P (.a (.bl false)) := by
  have h1 := pDL_all h
  have h2 := eqDL_refl 59 xs h1
  unfold gNe gOr gNeA gNeP
  rcases hk with e | e <;> subst e <;> simp [pD, h1, eqD, h2]
theorem eq_same {k : Kd} {o o' : Bool} {xs : List D} {P : D → Prop} (hk : k = .tup ∨ k = .lst) (h : ∀ x ∈ xs, pD 59 x = true) : SO (gEq (.n k o xs) (.n k o' xs)) P = P (.a (.bl true)) := by
  have h1 := pDL_all h
  have h2 := eqDL_refl 59 xs h1
  unfold gEq gOr gEqA gEqP
  rcases hk with e | e <;> subst e <;> simp [pD, h1, eqD, h2]
theorem pD_prD {m : Nat} {p : Nat × Nat} : pD (m + 1) (prD p) = true := by
  unfold prD natD
  simp [pD, pDL]
theorem pD_mrow {m n x : Nat} {T : Tb} : pD m (mrow n T x) = true := by
  unfold mrow
  simp [pD]
theorem ordeq_eq {n : Nat} {T : Tb} : F_OrderU_eqU [ordT n T, ordT n T] = .rt (.a (.bl true)) none := by
  apply wf_eq
  unfold F_OrderU_eqU
  rw [wf_fn]
  unfold B_OrderU_eqU
  have h1 : ∀ P : D → Prop, SO (gIsiA "Order" (ordT n T)) P = P (.a (.bl true)) := fun P => by
    unfold gIsiA ordT ordD
    simp
  simp [ioOf, isF_ordT, h1, fld_n, fld_above]
  rw [eq_same (.inl rfl) fun x hx => by
    obtain ⟨i, _, rfl⟩ := mem_vec hx
    exact pD_mrow]
theorem minimal_eq {n : Nat} {T : Tb} (hn : n ≤ 60) : F_Order_minimal [ordT n T] = .rt (.a (.int ((mask n (fun x => decide (mask n (fun z => T z x) = 0)) : Nat) : Int))) none := by
  have nfb : ¬ ("below" : Str) = "n" ∧ ¬ ("below" : Str) = "above" := by decide +kernel
  apply wf_eq
  unfold F_Order_minimal
  rw [wf_fn]
  unfold B_Order_minimal
  simp [ioOf, isF_ordT, fld_n, intL_vec, asIns_ord]
  refine ⟨nfb, ?_⟩
  show WF _ _ (F_Order_below [ordT n T])
  rw [below_eq hn]
  simp [isF_ordT, fld_n, intL_vec]
  refine ⟨by omega, ?_⟩
  rw [lcL_run (tbI fun x => decide (mask n (fun z => T z x) = 0)) (fun d => d)]
  · rw [wo_ok, filter_vecI]
    simp
    have hlen : ((List.range n).filter fun x => decide (mask n (fun z => T z x) = 0)).length ≤ n := Nat.le_trans (List.length_filter_le _ _) (by simp)
    rw [set_of_eq (.inl rfl) (by omega) (fun x hx => by have := List.mem_range.mp (List.mem_filter.mp hx).1; omega)]
    simp [mask_setm]
  · intro d hd
    obtain ⟨x, hx, rfl⟩ := mem_vec hd
    simp [so_ixTF (f := mrow n fun y x => T x y) (o := false) hx rfl]
    simp [mrow, tbI]
end DC
namespace DC
open PySem L2 DL
/-! ### covers -/
def far (n : Nat) (T : Tb) (x : Nat) (l : List Nat) : Nat := l.foldl (fun m z => m ||| mask n (T z)) 0
theorem far_bit {n : Nat} {T : Tb} {x y : Nat} : ∀ {l : List Nat} {m : Nat}, (l.foldl (fun m z => m ||| mask n (T z)) m).testBit y = (m.testBit y || (decide (y < n) && l.any fun z => T z y))
  | [], m => by simp
  | z :: l, m => by
    rw [List.foldl_cons, far_bit (x := x) (l := l), Nat.testBit_or, mask_bit, List.any_cons]
    cases m.testBit y <;> cases decide (y < n) <;> cases T z y <;> simp
theorem covers_eq {n : Nat} {T : Tb} (hn : n ≤ 60) : F_Order_covers [ordT n T] = .rt (.n .tup false ((prs n (covs n T)).map prD)) none := by
  apply wf_eq
  unfold F_Order_covers
  rw [wf_fn]
  unfold B_Order_covers
  simp [ioOf, isF_ordT, fld_n, intL_vec]
  refine ⟨by omega, ?_⟩
  refine wp_for (fun i ρ => ∃ v2 v3 v4 : Option D, ρ = [some (ordT n T), some (.n .lst true (((List.range i).flatMap (rowp n (covs n T))).map prD)), v2, v3, v4]) ?_ ?_ ?_
  · exact ⟨none, none, none, rfl⟩
  · intro x d ρ hd h
    obtain ⟨v2, v3, v4, hρ⟩ := h
    subst hρ
    have hq := vec_get' hd
    have hx := hq.1
    have he := hq.2
    subst he
    have hlen : ((List.range n).filter (T x)).length ≤ n := Nat.le_trans (List.length_filter_le _ _) (by simp)
    have hmem : ∀ y ∈ (List.range n).filter (T x), y < n := fun y hy => by simpa using (List.mem_filter.mp hy).1
    simp [isF_ordT, fld_above, so_ixTF (f := mrow n T) (o := false) hx rfl]
    simp [mrow, mask_members (show n ≤ 100 by omega)]
    refine ⟨by omega, ?_⟩
    generalize hL : (List.range n).filter (T x) = L at *
    refine wp_for (fun i ρ => ∃ v4 : Option D, ρ = [some (ordT n T), some (.n .lst true (((List.range x).flatMap (rowp n (covs n T))).map prD)), some (.a (.int (x : Int))), some (.a (.int ((far n T x (L.take i) : Nat) : Int))), v4]) ?_ ?_ ?_
    · exact ⟨v4, by simp [far]⟩
    · intro i d ρ hd h
      obtain ⟨v4, hρ⟩ := h
      subst hρ
      obtain ⟨z, hz, e⟩ := natD_get hd
      subst e
      have hzn := hmem z (List.mem_of_getElem? hz)
      have ef : far n T x (L.take (i + 1)) = far n T x (L.take i) ||| mask n (T z) := foldl_take hz
      rw [ef]
      simp [natD, isF_ordT, fld_above, so_ixTF (f := mrow n T) (o := false) hzn rfl]
      simp [mrow, bor_nat]
    · intro ρ h
      obtain ⟨v4, hρ⟩ := h
      subst hρ
      simp [isF_ordT, fld_above, so_ixTF (f := mrow n T) (o := false) hx rfl]
      simp [mrow, mask_members (show n ≤ 100 by omega), hL]
      refine ⟨by omega, ?_⟩
      have etake : L.take (L.map natD).length = L := List.take_of_length_le (by simp)
      have hrow : rowp n (covs n T) x = (L.filter fun y => !(far n T x L).testBit y).map fun y => (x, y) := by
        unfold rowp
        congr 1
        rw [← hL, List.filter_filter]
        apply List.filter_congr
        intro y hy
        have hy := List.mem_range.mp hy
        unfold covs far
        rw [hL, far_bit (x := x), Nat.zero_testBit, Bool.false_or, ← hL]
        simp only [hy, decide_true, Bool.true_and]
        rw [Bool.and_comm]
        congr 1
        rw [Bool.eq_iff_iff]
        simp
        constructor
        · intro h z hz h1
          rcases h z hz with q | q
          · rw [h1] at q; cases q
          · exact q
        · intro h z hz
          cases e : T x z with
          | false => exact .inl rfl
          | true => exact .inr (h z hz e)
      generalize hF : far n T x L = Fr at *
      have hA := prs_len (n := n) (T := covs n T) x
      have hx60 : x * n ≤ 3600 := Nat.mul_le_mul (show x ≤ 60 by omega) hn
      refine wp_for (fun i ρ => ∃ v4 : Option D, ρ = [some (ordT n T), some (.n .lst true (((List.range x).flatMap (rowp n (covs n T)) ++ ((L.take i).filter fun y => !Fr.testBit y).map fun y => (x, y)).map prD)), some (.a (.int (x : Int))), some (.a (.int (Fr : Int))), v4]) ?_ ?_ ?_
      · exact ⟨v4, by simp⟩
      · intro i d ρ hd h
        obtain ⟨v4, hρ⟩ := h
        subst hρ
        obtain ⟨y, hy, e⟩ := natD_get hd
        subst e
        have hi : i < L.length := (List.getElem?_eq_some_iff.mp hy).1
        have hfl : ((L.take i).filter fun y => !Fr.testBit y).length ≤ 60 := Nat.le_trans (List.length_filter_le _ _) (by simp; omega)
        rw [List.take_succ, hy]
        generalize (List.range x).flatMap (rowp n (covs n T)) = A at *
        generalize hB : (L.take i).filter (fun y => !Fr.testBit y) = B at *
        simp [natD, has_eq, prD, List.filter_append, hB]
        intro hb
        refine ⟨by omega, ?_⟩
        simp [hb, prD, natD]
      · intro ρ h
        obtain ⟨v4, hρ⟩ := h
        subst hρ
        rw [etake]
        exact ⟨some (.a (.int (x : Int))), some (.a (.int (Fr : Int))), v4, by rw [prs_take, hrow]⟩
  · intro ρ h
    obtain ⟨v2, v3, v4, hρ⟩ := h
    subst hρ
    simp [prs]
end DC
namespace DC
open PySem L2 DL
/-! ### a list of numbers to draw from -/
def Nms (d : D) : Prop := ∃ l : List Nat, d = .lst true (l.map natD) ∧ (∀ x ∈ l, x < 1009) ∧ l.length ≤ 10000
theorem next_wf {st : D} (h : Nms st) (m : Int) (hm : 0 < m) : WF NoE (fun d io => ∃ v : Int, d = .int v ∧ 0 ≤ v ∧ v < m ∧ ∃ st', io = some st' ∧ Nms st') (F_law_next [st, .int m]) := by
  obtain ⟨l, rfl, hx, hl⟩ := h
  unfold F_law_next
  rw [wf_fn]
  unfold B_law_next
  cases l with
  | nil =>
    simp [ioOf]
    exact ⟨hm, [], by simp, by simp, by simp⟩
  | cons a l =>
    have hs : seqIndex? 0 (l.length + 1) = some 0 := by
      have := seqIx_nat (v := 0) (n := l.length + 1) (by omega) (by omega)
      simpa using this
    have hne : ¬ ((l.length : Int) + 1 = 0) := by omega
    simp [ioOf, hs, hne, natD]
    refine ⟨hm, Int.emod_nonneg _ (by omega), Int.emod_lt_of_pos _ hm, l, rfl, fun x hx' => hx x (by simp [hx']), by simp at hl; omega⟩
end DC
namespace DC
open PySem L2 DL
/-! ### the closing with rings told, pairs from a list or a tuple -/
def cyc : Exn := ⟨"Refused", [("reason", .str "cycle")]⟩
def Irr (n : Nat) (T : Tb) : Prop := ∀ x, x < n → T x x = false
theorem closed_wf {n : Nat} {ps : List (Nat × Nat)} (hr : Bd n ps) (hn : n ≤ 60) (hl : ps.length ≤ 100000) :
    WF (fun e _ => ¬ Irr n (clo n ps) ∧ e = cyc) (fun d io => Irr n (clo n ps) ∧ d = .tup (vec n (mrow n (clo n ps))) ∧ io = none) (F_u_closed [.a (.int (n : Int)), .n .lst false (ps.map prD)]) := by
  unfold F_u_closed
  rw [wf_fn]
  unfold B_u_closed
  simp [ioOf, itemsOf, hl, rep1 (d := .a (.int 0)) rfl (show n ≤ 1000000 by omega)]
  refine ⟨by omega, ?_⟩
  refine wp_for (fun i ρ => ∃ v3 v4 : Option D, ρ = [some (.a (.int (n : Int))), some (.n .lst false (ps.map prD)), some (.n .lst true (vec n (mrow n (base (ps.take i))))), v3, v4]) ?_ ?_ ?_
  · refine ⟨none, none, ?_⟩
    have e : vec n (mrow n (base (ps.take 0))) = vec n fun _ => .a (.int 0) := vec_ext fun i hi => by
      unfold mrow
      rw [mask_congr (g := fun _ => false) (fun z _ => by simp [base])]
      have : mask n (fun _ => false) = 0 := (mask_of (f := fun _ => false) (fun z => by simp)).symm
      rw [this]; rfl
    rw [e]
  · intro i d ρ hd h
    obtain ⟨v3, v4, hρ⟩ := h
    subst hρ
    rw [List.getElem?_map] at hd
    cases hp : ps[i]? with
    | none => rw [hp] at hd; cases hd
    | some p =>
      rw [hp] at hd
      cases hd
      obtain ⟨h1, h2⟩ := hr p (List.mem_of_getElem? hp)
      have h3 : p.2 ≤ 1000000 := by omega
      simp [prD, natD, so_ixL h1, mrow, o_shl1 h3, so_ixN h1, bor_nat, vec_set]
      apply vec_ext
      intro j hj
      unfold mrow
      split
      · rename_i e
        subst e
        rw [show (2 : Int) ^ p.2 = ((2 ^ p.2 : Nat) : Int) by simp, bor_nat]
        congr 3
        apply mask_or
        · intro z hz
          rw [base_take hp, Nat.testBit_two_pow]
          congr 1
          apply decide_eq_decide.mpr
          obtain ⟨a, b⟩ := p
          simp
          exact eq_comm
        · intro z hz
          rw [Nat.testBit_two_pow] at hz
          have : p.2 = z := by simpa using hz
          omega
      · rename_i e
        congr 3
        apply mask_congr
        intro z hz
        rw [base_take hp]
        have : decide ((j, z) = p) = false := decide_eq_false fun q => e (by rw [← q])
        rw [this, Bool.or_false]
  · intro ρ h
    obtain ⟨v3, v4, hρ⟩ := h
    subst hρ
    simp
    refine ⟨by omega, ?_⟩
    refine wp_for (fun k ρ => ∃ v3 v4 : Option D, ρ = [some (.a (.int (n : Int))), some (.n .lst false (ps.map prD)), some (.n .lst true (vec n (mrow n (war (base ps) n k)))), v3, v4]) ?_ ?_ ?_
    · exact ⟨v3, v4, rfl⟩
    · intro y d ρ hd h
      obtain ⟨v3, v4, hρ⟩ := h
      subst hρ
      obtain ⟨rfl, hy⟩ := intL_get hd
      simp
      refine ⟨by omega, ?_⟩
      refine wp_for (fun k ρ => ∃ v3 : Option D, ρ = [some (.a (.int (n : Int))), some (.n .lst false (ps.map prD)), some (.n .lst true (vec n (mrow n (warX (war (base ps) n y) y k)))), v3, some (.a (.int (y : Int)))]) ?_ ?_ ?_
      · exact ⟨v3, rfl⟩
      · intro x d ρ hd h
        obtain ⟨v3, hρ⟩ := h
        subst hρ
        obtain ⟨rfl, hx⟩ := intL_get hd
        have hx0 : (0 : Int) + (x : Int) = (x : Int) := by omega
        simp [so_ixL hx, so_ixL hy, mrow, has_eq, so_ixN hx, bor_nat, vec_set, mask_bit]
        have key : ∀ j z, warX (war (base ps) n y) y (x + 1) j z = if j = x then warX (war (base ps) n y) y x j z || (warX (war (base ps) n y) y x x y && warX (war (base ps) n y) y x y z) else warX (war (base ps) n y) y x j z := fun j z => rfl
        split
        · rename_i hc
          apply vec_ext
          intro j hj
          unfold mrow
          split
          · rename_i e
            subst e
            congr 3
            apply mask_or
            · intro z hz
              rw [key, if_pos rfl, hc.2, mask_bit, Bool.true_and]
              simp [hz]
            · intro z hz
              rw [mask_bit, Bool.and_eq_true] at hz
              exact of_decide_eq_true hz.1
          · rename_i e
            congr 3
            apply mask_congr
            intro z hz
            rw [key, if_neg e]
        · rename_i hc
          apply vec_ext
          intro j hj
          unfold mrow
          congr 3
          apply mask_congr
          intro z hz
          rw [key]
          split
          · rename_i e
            subst e
            cases hT : warX (war (base ps) n y) y j j y with
            | false => simp
            | true => exact absurd ⟨hy, hT⟩ hc
          · rfl
      · intro ρ h
        obtain ⟨v3, hρ⟩ := h
        subst hρ
        rw [intL_len]
        exact ⟨_, _, rfl⟩
    · intro ρ h
      obtain ⟨v3, v4, hρ⟩ := h
      subst hρ
      rw [intL_len]
      simp
      refine ⟨by omega, ?_⟩
      refine wp_for (fun k ρ => (∀ x, x < k → clo n ps x x = false) ∧ ∃ v3 : Option D, ρ = [some (.a (.int (n : Int))), some (.n .lst false (ps.map prD)), some (.n .lst false (vec n (mrow n (clo n ps)))), v3, v4]) ?_ ?_ ?_
      · exact ⟨fun x hx => absurd hx (Nat.not_lt_zero _), v3, rfl⟩
      · intro x d ρ hd h
        obtain ⟨hlt, v3, hρ⟩ := h
        subst hρ
        obtain ⟨rfl, hx⟩ := intL_get hd
        have hx0 : (0 : Int) + (x : Int) = (x : Int) := by omega
        rw [hx0]
        simp [so_ixLF (f := mrow n (clo n ps)) (o := false) hx rfl]
        simp [mrow, has_eq, mask_bit, hx]
        cases hT : clo n ps x x with
        | true =>
          simp [okStr]
          refine ⟨by decide +kernel, ⟨fun hi => ?_, rfl⟩⟩
          rw [hi x hx] at hT
          cases hT
        | false =>
          simp
          intro y hy
          rcases Nat.lt_or_ge y x with h | h
          · exact hlt y h
          · have : y = x := by omega
            subst this
            exact hT
      · intro ρ h
        obtain ⟨hlt, v3, hρ⟩ := h
        subst hρ
        rw [intL_len] at hlt
        simp
        exact hlt
theorem checked_any {k : Kd} (hk : k = .lst ∨ k = .tup) {n : Nat} {ps : List (Nat × Nat)} (h : Bd n ps) (hl : ps.length ≤ 100000) : F_u_checked_pairs [.a (.int (n : Int)), .n k false (ps.map prD)] = .rt (.n .lst false (ps.map prD)) none := by
  apply wf_eq
  unfold F_u_checked_pairs
  rw [wf_fn]
  unfold B_u_checked_pairs
  have e1 : ∀ P : D → Prop, SO (gIsi2 "list" "tuple" (.n k false (ps.map prD))) P = P (.a (.bl true)) := fun P => by
    rcases hk with rfl | rfl <;> simp [gIsi2, tyN, isiT]
  have e2 : ∀ P : List D → Prop, SO (itemsOf (.n k false (ps.map prD))) P = P (ps.map prD) := fun P => by
    rcases hk with rfl | rfl <;> simp <;> omega
  simp [ioOf, e1, e2]
  refine wp_for (fun i ρ => ∃ v3 v4 : Option D, ρ = [some (.a (.int (n : Int))), some (.n k false (ps.map prD)), some (.n .lst true ((ps.map prD).take i)), v3, v4]) ?_ ?_ ?_
  · exact ⟨none, none, rfl⟩
  · intro i d ρ hd h
    obtain ⟨v3, v4, hρ⟩ := h
    subst hρ
    rw [List.getElem?_map] at hd
    cases hp : ps[i]? with
    | none => rw [hp] at hd; cases hd
    | some p =>
      rw [hp] at hd
      cases hd
      obtain ⟨h1, h2⟩ := h p (List.mem_of_getElem? hp)
      simp [prD, natD, o_isi (t := "tuple") (d := .n .tup false _) rfl, isiT, itemsOf]
      refine wp_for (fun j ρ => ∃ v4 : Option D, ρ = [some (.a (.int (n : Int))), some (.n k false (ps.map prD)), some (.n .lst true ((ps.map prD).take i)), some (.n .tup false [natD p.1, natD p.2]), v4]) ?_ ?_ ?_
      · exact ⟨v4, rfl⟩
      · intro j d ρ hd h
        obtain ⟨v4, hρ⟩ := h
        subst hρ
        have key : ∃ x : Nat, d = .a (.int (x : Int)) ∧ x < n := by
          match j, hd with
          | 0, hd => cases hd; exact ⟨_, rfl, h1⟩
          | 1, hd => cases hd; exact ⟨_, rfl, h2⟩
          | (k + 2), hd => simp at hd
        obtain ⟨x, rfl, hx⟩ := key
        simp [isint_eq]
        exact hx
      · intro ρ h
        obtain ⟨v4, hρ⟩ := h
        subst hρ
        simp
        refine ⟨by omega, ?_⟩
        rw [List.take_succ, List.getElem?_map, hp]
        rfl
  · intro ρ h
    obtain ⟨v3, v4, hρ⟩ := h
    subst hρ
    have e : List.take (ps.map prD).length (ps.map prD) = ps.map prD := List.take_of_length_le (Nat.le_refl _)
    simp only [List.length_map] at e
    simp [e]
/-- Order(n, pairs) -/
theorem init_wf {k : Kd} (hk : k = .lst ∨ k = .tup) {n : Nat} {ps : List (Nat × Nat)} (h : Bd n ps) (hn : n ≤ 10) (hl : ps.length ≤ 100000) :
    WF (fun e _ => ¬ Irr n (clo n ps) ∧ e = cyc) (fun d io => Irr n (clo n ps) ∧ d = .a .non ∧ io = some (.n (.ins "Order" ["n", "above"]) true [.a (.int (n : Int)), .n .tup false (vec n (mrow n (clo n ps)))]))
      (F_OrderU_initU [.n (.ins "Order" []) true [], .a (.int (n : Int)), .n k false (ps.map prD)]) := by
  have hc := closed_wf h (show n ≤ 60 by omega) hl
  have hk2 := checked_any hk h hl
  have hf : isF (.n k false (ps.map prD)) = true := by simp
  unfold F_OrderU_initU
  rw [wf_fn]
  unfold B_OrderU_initU
  have hneg : ¬ (n : Int) < 0 := by omega
  have hbig : ¬ (10 : Int) < n := by omega
  simp [ioOf, isint_eq, hk2, hneg, hbig]
  cases hF : F_u_closed [.a (.int (n : Int)), .n .lst false (ps.map prD)] with
  | st => rw [hF] at hc; exact hc.elim
  | ex e io => rw [hF] at hc; simp; exact hc
  | rt d io =>
    rw [hF] at hc
    obtain ⟨h1, rfl, rfl⟩ := hc
    simp
    exact ⟨by decide +kernel, h1⟩
end DC
namespace DL
open PySem L2
/-- the same, not to be run by the unifier -/
@[irreducible] def WX (Q : Ps) (f : DL.Env → Fl) (ρ : DL.Env) : Prop := WP Q (f ρ)
@[simp] theorem wx {Q : Ps} {f : DL.Env → Fl} {ρ : DL.Env} : WX Q f ρ = WP Q (f ρ) := by unfold WX; rfl
/-- one statement, the rest kept out of sight -/
theorem wp_step {Q : Ps} {f g : DL.Env → Fl} {ρ : DL.Env} (h : ∀ K : DL.Env → Prop, (∀ ρ', WP Q (g ρ') → K ρ') → WX ⟨K, Q.rt, Q.bk, Q.ct, Q.ex⟩ f ρ) : WP Q (dSeq f g ρ) := by
  rw [p_Seq]
  have := h _ fun _ h => h
  rwa [wx] at this
/-- a cut -/
theorem wp_cut {Q : Ps} {f g : DL.Env → Fl} {ρ : DL.Env} (R : DL.Env → Prop) (h1 : WP ⟨R, Q.rt, Q.bk, Q.ct, Q.ex⟩ (f ρ)) (h2 : ∀ ρ', R ρ' → WP Q (g ρ')) : WP Q (dSeq f g ρ) := by
  rw [p_Seq]
  cases hf : f ρ with
  | nx ρ1 => rw [hf] at h1; exact h2 _ h1
  | rt d ρ1 => rw [hf] at h1; exact h1
  | bk ρ1 => rw [hf] at h1; exact h1
  | ct ρ1 => rw [hf] at h1; exact h1
  | ex e ρ1 => rw [hf] at h1; exact h1
  | st => rw [hf] at h1; exact h1
/-- a cut, what is wanted behind it out of sight -/
theorem wp_cutK {Q : Ps} {f g : DL.Env → Fl} {ρ : DL.Env} (R : DL.Env → Prop) (h1 : ∀ K : DL.Env → Prop, (∀ ρ', R ρ' → K ρ') → WX ⟨K, Q.rt, Q.bk, Q.ct, Q.ex⟩ f ρ) (h2 : ∀ ρ', R ρ' → WP Q (g ρ')) : WP Q (dSeq f g ρ) := wp_cut R (by have := h1 R fun _ h => h; rwa [wx] at this) h2
section
variable {C : Str} {F : List D → FR} {fs gs : List Str} {xs ys : List D} {b neg : Bool} {io : Option D} {P : D → Prop}
theorem so_own (h1 : isFL xs = true) (h2 : isFL ys = true) (h : F [.n (.ins C fs) false xs, .n (.ins C gs) false ys] = .rt (.a (.bl b)) io) : SO (gOwn C F neg (.n (.ins C fs) false xs) (.n (.ins C gs) false ys)) P = P (.a (.bl (if neg = true then !b else b))) := by
  unfold gOwn
  simp [h1, h2, h]
theorem so_ownA (h1 : isFL xs = true) (h2 : isFL ys = true) (h : F [.n (.ins C fs) false xs, .n (.ins C gs) false ys] = .rt (.a (.bl b)) io) : SO (gOr (gOwn C F false) (gOr (gOwnT C F) gEq) (.n (.ins C fs) false xs) (.n (.ins C gs) false ys)) P = P (.a (.bl b)) := by
  have := so_own (neg := false) (P := P) h1 h2 h
  unfold gOr
  cases hg : gOwn C F false (.n (.ins C fs) false xs) (.n (.ins C gs) false ys) with
  | none =>
    exfalso
    unfold gOwn at hg
    simp [h1, h2, h] at hg
  | some d =>
    rw [hg] at this
    simpa using this
theorem so_ownAT {d2 : D} {t : String} (h1 : isFL xs = true) (ht : tyN d2 = some t) (h2 : isF d2 = true) (h : F [.n (.ins C fs) false xs, d2] = .rt (.a (.bl b)) io) : SO (gOr (gOwn C F false) (gOr (gOwnT C F) gEq) (.n (.ins C fs) false xs) d2) P = P (.a (.bl b)) := by
  have e1 : gOwn C F false (.n (.ins C fs) false xs) d2 = none := by
    cases d2 with
    | a x => rfl
    | n k o zs => cases k <;> first | rfl | cases ht
  have e2 : gOwnT C F (.n (.ins C fs) false xs) d2 = some (.bl b) := by
    unfold gOwnT
    rw [ht]
    simp [h1, h2, h]
  unfold gOr
  rw [e1, e2]
  rfl
theorem so_ownAS {s t : Str} : SO (gOr (gOwn C F false) (gOr (gOwnT C F) gEq) (.a (.str s)) (.a (.str t))) P = P (.a (.bl (decide (s = t)))) := by
  show SO (gEq (.a (.str s)) (.a (.str t))) P = _
  exact o_eqS
end
end DL
namespace DC
open PySem L2 DL
theorem eqDL_map {α : Type} {f g : α → D} : ∀ l : List α, eqDL (l.map f) (l.map g) = l.all fun i => eqD (f i) (g i)
  | [] => rfl
  | x :: l => by simp [eqDL, eqDL_map l]
theorem eqDL_vec {n : Nat} {f g : Nat → D} : eqDL (vec n f) (vec n g) = (List.range n).all fun i => eqD (f i) (g i) := eqDL_map _
theorem pDL_vec {m n : Nat} {f : Nat → D} (h : ∀ i, i < n → pD m (f i) = true) : pDL m (vec n f) = true := pDL_all fun x hx => by
  obtain ⟨i, hi, rfl⟩ := mem_vec hx
  exact h i hi
theorem so_eqP {d e : D} {P : D → Prop} (h1 : pD 60 d = true) (h2 : pD 60 e = true) (h3 : ∀ x y, ¬ (d = .a x ∧ e = .a y)) : SO (gEq d e) P = P (.a (.bl (eqD d e))) := by
  unfold gEq gOr gEqP
  have : gEqA d e = none := by
    unfold gEqA
    split
    · rename_i x y
      exact absurd ⟨rfl, rfl⟩ (h3 x y)
    · rfl
  rw [this]
  simp [h1, h2]
theorem so_neP {d e : D} {P : D → Prop} (h1 : pD 60 d = true) (h2 : pD 60 e = true) (h3 : ∀ x y, ¬ (d = .a x ∧ e = .a y)) : SO (gNe d e) P = P (.a (.bl (!eqD d e))) := by
  unfold gNe gOr gNeP
  have : gNeA d e = none := by
    unfold gNeA
    split
    · rename_i x y
      exact absurd ⟨rfl, rfl⟩ (h3 x y)
    · rfl
  rw [this]
  simp [h1, h2]
instance {n : Nat} {T : Tb} : Decidable (Irr n T) := inferInstanceAs (Decidable (∀ x, x < n → T x x = false))
/-- orders compared -/
theorem ordeq_gen {n m : Nat} {T S : Tb} : F_OrderU_eqU [ordT n T, ordT m S] = .rt (.a (.bl (decide (n = m ∧ ∀ x, x < n → mask n (T x) = mask n (S x))))) none := by
  apply wf_eq
  unfold F_OrderU_eqU
  rw [wf_fn]
  unfold B_OrderU_eqU
  have h1 : ∀ P : D → Prop, SO (gIsiA "Order" (ordT m S)) P = P (.a (.bl true)) := fun P => by
    unfold ordT ordD
    simp
  simp [ioOf, isF_ordT, h1, fld_n, fld_above]
  by_cases h : n = m
  · subst h
    simp
    rw [so_eqP (by simp [pD]; exact pDL_vec fun _ _ => pD_mrow) (by simp [pD]; exact pDL_vec fun _ _ => pD_mrow) (fun x y h => by cases h.1)]
    simp [eqD, eqDL_vec, mrow, eqA]
    rw [Bool.eq_iff_iff]
    simp
    constructor
    · intro h x hx
      have := h x hx
      omega
    · intro h x hx
      rw [h x hx]
  · have : ¬ (n : Int) = m := by omega
    simp [h, this]
theorem ordeq_tup {n : Nat} {T : Tb} {k : Kd} {xs : List D} (hk : k = .tup ∨ k = .lst) (hf : isFL xs = true) : F_OrderU_eqU [ordT n T, .n k false xs] = .rt (.a (.bl false)) none := by
  apply wf_eq
  unfold F_OrderU_eqU
  rw [wf_fn]
  unfold B_OrderU_eqU
  have h1 : ∀ P : D → Prop, SO (gIsiA "Order" (.n k false xs)) P = P (.a (.bl false)) := fun P => by
    rcases hk with rfl | rfl
    · exact o_isiA (t := "tuple") rfl
    · exact o_isiA (t := "list") rfl
  simp [ioOf, h1, hf]
theorem size_eq {n : Nat} {T : Tb} : F_Order_size [ordT n T] = .rt (.a (.int (n : Int))) none := by
  apply wf_eq
  unfold F_Order_size
  rw [wf_fn]
  unfold B_Order_size
  simp [ioOf, isF_ordT, fld_n]
theorem len_eq {n : Nat} {T : Tb} : F_OrderU_lenU [ordT n T] = .rt (.a (.int (n : Int))) none := by
  apply wf_eq
  unfold F_OrderU_lenU
  rw [wf_fn]
  unfold B_OrderU_lenU
  simp [ioOf, isF_ordT, fld_above]
theorem o_len_ord {n : Nat} {T : Tb} {P : D → Prop} (hn : n < 1000000) : SO (gLenO "Order" F_OrderU_lenU (ordT n T)) P = P (.a (.int (n : Int))) := o_lenO (by simp) len_eq hn
theorem base_congr {ps qs : List (Nat × Nat)} (h : ∀ p, p ∈ ps ↔ p ∈ qs) : base ps = base qs := by
  funext x y
  unfold base
  exact decide_eq_decide.mpr (h (x, y))
theorem clo_congr {n : Nat} {ps qs : List (Nat × Nat)} (h : ∀ p, p ∈ ps ↔ p ∈ qs) : clo n ps = clo n qs := by
  unfold clo
  rw [base_congr h]
end DC
namespace DL
open PySem L2
/-! ### loops of a known shape -/
theorem get_set_self {ρ : DL.Env} {i : Nat} {o : Option D} (h : i < ρ.length) : (ρ.set i o)[i]? = some o := by rw [List.getElem?_set_self h]
theorem get_set_ne {ρ : DL.Env} {i j : Nat} {o : Option D} (h : i ≠ j) : (ρ.set i o)[j]? = ρ[j]? := by rw [List.getElem?_set_ne h]
theorem set_set {ρ : DL.Env} {i : Nat} {o o' : Option D} : (ρ.set i o).set i o' = ρ.set i o' := List.set_set ..
theorem set_comm' {ρ : DL.Env} {i j : Nat} {o o' : Option D} (h : i ≠ j) : (ρ.set i o).set j o' = (ρ.set j o').set i o := List.set_comm _ _ h
/-- the block's own names come back -/
theorem back_same {ρ : DL.Env} {v : Nat} (h : ∀ d, ρ[v]? = some (some d) → isF d = true) : backE ρ [v] (wipeE ρ [v]) = ρ := by
  rw [wipeE_cons, wipeE_nil]
  unfold backE
  cases e : ρ[v]? with
  | none =>
    rw [backE_nil]
    have hl : ρ.length ≤ v := List.getElem?_eq_none_iff.mp e
    exact List.set_eq_of_length_le hl
  | some o =>
    have hl : v < ρ.length := (List.getElem?_eq_some_iff.mp e).1
    cases o with
    | none =>
      dsimp only
      rw [backE_nil]
      apply List.ext_getElem?
      intro j
      by_cases q : v = j
      · subst q; rw [List.getElem?_set_self hl, e]
      · rw [List.getElem?_set_ne q]
    | some d =>
      dsimp only
      rw [backE_nil, if_pos ⟨h d e, by rw [List.length_set]; exact hl⟩, List.set_set]
      apply List.ext_getElem?
      intro j
      by_cases q : v = j
      · subst q; rw [List.getElem?_set_self hl, e]
      · rw [List.getElem?_set_ne q]
/-- [f for v in ds if t] -/
theorem w_lcF {E : Exn → DL.Env → Prop} {P : D → DL.Env → Prop} {ρ : DL.Env} {v : Nat} {src : DL.Env → Out (List D)} {t : DL.Env → Out Bool} {f : DL.Env → Out D} {ds : List D} (tb : D → Bool) (fv : D → D) (hv : ∀ d, ρ[v]? = some (some d) → isF d = true) (hl : v < ρ.length) (hsrc : src ρ = .ok ds ρ) (hc : ds.length ≤ 1000000)
    (ht : ∀ d ∈ ds, t (ρ.set v (some d)) = .ok (tb d) (ρ.set v (some d))) (hf : ∀ d ∈ ds, tb d = true → f (ρ.set v (some d)) = .ok (fv d) (ρ.set v (some d))) :
    WO E P (dLc [v] src (tg1 v) t f ρ) = P (.lst true ((ds.filter tb).map fv)) ρ := by
  rw [w_Lc, hsrc]
  simp only [wo_ok, capv, hc, true_and]
  have hw : wipeE ρ [v] = ρ.set v none := rfl
  rw [lcL_run tb fv]
  · rw [wo_ok, hw]
    have : wipeE (ρ.set v none) [v] = wipeE ρ [v] := by simp [wipeE]
    rw [this, back_same hv]
  · intro d hd
    rw [hw]
    rw [s_tg1]
    refine ⟨by rw [List.length_set]; exact hl, ?_⟩
    rw [List.set_set, ht d hd, wo_ok]
    refine ⟨rfl, ?_⟩
    cases h : tb d with
    | true =>
      rw [if_pos rfl, hf d hd h, wo_ok]
      exact ⟨rfl, by simp [wipeE]⟩
    | false =>
      rw [if_neg (by decide)]
      simp [wipeE]
theorem w_lcA {E : Exn → DL.Env → Prop} {P : D → DL.Env → Prop} {ρ : DL.Env} {v : Nat} {src : DL.Env → Out (List D)} {f : DL.Env → Out D} {ds : List D} (fv : D → D) (hv : ∀ d, ρ[v]? = some (some d) → isF d = true) (hl : v < ρ.length) (hsrc : src ρ = .ok ds ρ) (hc : ds.length ≤ 1000000)
    (hf : ∀ d ∈ ds, f (ρ.set v (some d)) = .ok (fv d) (ρ.set v (some d))) : WO E P (dLc [v] src (tg1 v) dYes f ρ) = P (.lst true (ds.map fv)) ρ := by
  rw [w_lcF (t := dYes) (fun _ => true) fv hv hl hsrc hc (fun d hd => rfl) (fun d hd _ => hf d hd)]
  have : ds.filter (fun _ => true) = ds := List.filter_eq_self.mpr fun _ _ => rfl
  rw [this]
/-- an answer known -/
theorem out_eq {α : Type} {o : Out α} {x : α} {ρ : DL.Env} (h : WO NoE (fun y ρ' => y = x ∧ ρ' = ρ) o) : o = .ok x ρ := by
  cases o with
  | ok y ρ' => obtain ⟨rfl, rfl⟩ := h; rfl
  | ex e ρ' => exact h.elim
  | st => exact h.elim
end DL
namespace DC
open PySem L2 DL
theorem vec_map {n : Nat} {f : Nat → D} {g : D → D} : (vec n f).map g = vec n fun i => g (f i) := by simp [vec]
theorem vec_map' {n : Nat} {f fv : Nat → D} {g : D → D} (h : ∀ i, i < n → g (f i) = fv i) : (vec n f).map g = vec n fv := by
  rw [vec_map]; exact vec_ext h
def natOf : D → Nat
  | .a (.int i) => i.toNat
  | _ => 0
@[simp] theorem natOf_int {i : Nat} : natOf (.a (.int (i : Int))) = i := rfl
@[simp] theorem natOf_natD {i : Nat} : natOf (natD i) = i := rfl
/-- for x in range(n): for y in range(n): if t: out.append((x, y)) -/
theorem wp_prs {Q : Ps} {ρ : DL.Env} {a i j l n : Nat} {t : DL.Env → Out Bool} {T : Tb} (hij : i ≠ j) (hil : i ≠ l) (hjl : j ≠ l) (hai : a ≠ i) (haj : a ≠ j) (hal : a ≠ l) (hi : i < ρ.length) (hj : j < ρ.length) (hl : l < ρ.length) (ha : ρ[a]? = some (some (.a (.int (n : Int))))) (hn : n ≤ 500) (h0 : ρ[l]? = some (some (.lst true [])))
    (ht : ∀ x y, x < n → y < n → ∀ ps : List (Nat × Nat), t (((ρ.set l (some (.lst true (ps.map DC.prD)))).set i (some (natD x))).set j (some (natD y))) = .ok (T x y) (((ρ.set l (some (.lst true (ps.map DC.prD)))).set i (some (natD x))).set j (some (natD y))))
    (hq : ∀ vi vj, Q.nx (((ρ.set l (some (.lst true ((prs n T).map DC.prD)))).set i vi).set j vj)) :
    WP Q (dFor (dRng1 (dVar a)) (tg1 i) (dFor (dRng1 (dVar a)) (tg1 j) (dIf t (dHas l (dBind (dTup (dACons (dVar i) (dACons (dVar j) dANil))) (stApp l))) dNext)) ρ) := by
  have hρl : ρ = ρ.set l (some (.lst true (([] : List (Nat × Nat)).map DC.prD))) := by
    apply List.ext_getElem?
    intro k
    by_cases q : l = k
    · subst q; rw [get_set_self hl, h0]; rfl
    · rw [get_set_ne q]
  have hset : ∀ (ρ : DL.Env) (k : Nat) (o : Option D), ρ[k]? = some o → ρ.set k o = ρ := fun ρ k o h => by
    apply List.ext_getElem?
    intro m
    by_cases q : k = m
    · subst q; rw [get_set_self (List.getElem?_eq_some_iff.mp h).1, h]
    · rw [get_set_ne q]
  obtain ⟨oi, hoi⟩ : ∃ o, ρ[i]? = some o := ⟨_, List.getElem?_eq_getElem hi⟩
  obtain ⟨oj, hoj⟩ : ∃ o, ρ[j]? = some o := ⟨_, List.getElem?_eq_getElem hj⟩
  rw [p_For, w_Rng1, w_Var, ha]
  simp only [so_some, isF_a, true_and, asI_int, Int.toNat_natCast]
  refine ⟨by omega, ?_⟩
  refine wp_for (fun x ρ' => ∃ vi vj, ρ' = ((ρ.set l (some (.lst true (((List.range x).flatMap (rowp n T)).map DC.prD)))).set i vi).set j vj) ?_ ?_ ?_
  · refine ⟨oi, oj, ?_⟩
    simp only [List.range_zero, List.flatMap_nil]
    rw [← hρl, hset ρ i _ hoi, hset ρ j _ hoj]
  · rintro x d ρ' hd ⟨vi, vj, rfl⟩
    obtain ⟨rfl, hx⟩ := intL_get hd
    rw [show (0 : Int) + (x : Int) = x by omega, s_tg1]
    refine ⟨by simpa using hi, ?_⟩
    rw [set_comm' (Ne.symm hij), set_set]
    rw [p_For, w_Rng1, w_Var, get_set_ne (Ne.symm haj), get_set_ne (Ne.symm hai), get_set_ne (Ne.symm hal), ha]
    simp only [so_some, isF_a, true_and, asI_int, Int.toNat_natCast]
    refine ⟨by omega, ?_⟩
    refine wp_for (fun y ρ' => ∃ vj, ρ' = ((ρ.set l (some (.lst true (((List.range x).flatMap (rowp n T) ++ ((List.range y).filter (T x)).map fun y => (x, y)).map DC.prD)))).set i (some (natD x))).set j vj) ?_ ?_ ?_
    · refine ⟨vj, ?_⟩
      simp only [List.range_zero, List.filter_nil, List.map_nil, List.append_nil]
      rfl
    · rintro y d ρ' hd ⟨vj, rfl⟩
      obtain ⟨rfl, hy⟩ := intL_get hd
      rw [show (0 : Int) + (y : Int) = y by omega, s_tg1]
      refine ⟨by simpa using hj, ?_⟩
      rw [set_set]
      have hty := ht x y hx hy ((List.range x).flatMap (rowp n T) ++ ((List.range y).filter (T x)).map fun y => (x, y))
      rw [p_If]
      show WO _ _ (t (((ρ.set l _).set i (some (natD x))).set j (some (natD y))))
      rw [hty, wo_ok]
      have hlen : ((List.range x).flatMap (rowp n T) ++ ((List.range y).filter (T x)).map fun y => (x, y)).length < 1000000 := by
        have h1 := prs_len (n := n) (T := T) x
        have h2 : ((List.range y).filter (T x)).length ≤ y := Nat.le_trans (List.length_filter_le _ _) (by simp)
        rw [List.length_append, List.length_map]
        have h3 : x * n ≤ 500 * 500 := Nat.mul_le_mul (by omega) hn
        omega
      cases hT : T x y with
      | true =>
        rw [if_pos rfl, p_Has, get_set_ne hjl, get_set_ne hil, get_set_self hl]
        simp only [so_some, true_and]
        simp only [p_Bind, w_Tup, w_ACons, w_ANil, w_Var, get_set_ne hij.symm, get_set_self (show i < (ρ.set l _).length by simpa using hi), get_set_self (show j < ((ρ.set l _).set i _).length by simpa using hj), wo_ok, so_some, isF_natD, true_and]
        simp
        rw [get_set_ne hjl, get_set_ne hil, get_set_self hl]
        simp
        refine ⟨by simpa using hlen, ?_⟩
        refine ⟨some (natD y), ?_⟩
        rw [set_comm' hjl, set_comm' hil, set_set]
        congr 4
        rw [List.range_succ, List.filter_append, List.map_append]
        simp [hT, DC.prD]
      | false =>
        rw [if_neg (by decide), p_Next]
        refine ⟨some (natD y), ?_⟩
        congr 8
        rw [List.range_succ, List.filter_append]
        simp [hT]
    · rintro ρ' ⟨vj, rfl⟩
      rw [intL_len]
      refine ⟨some (natD x), vj, ?_⟩
      rw [prs_take]
      rfl
  · rintro ρ' ⟨vi, vj, rfl⟩
    rw [intL_len]
    exact hq vi vj
end DC
namespace DL
open PySem L2
theorem lcL_noex {vs : List Nat} {g : D → DL.Env → Option DL.Env} {t : DL.Env → Out Bool} {f : DL.Env → Out D} : ∀ {ds : List D} {ρ : DL.Env} (e : Exn) (ρ' : DL.Env), lcL vs g t f ds ρ ≠ .ex e ρ'
  | [], ρ, e, ρ' => by unfold lcL; exact fun h => nomatch h
  | d :: ds, ρ, e, ρ' => by
    unfold lcL
    cases g d ρ with
    | none => exact fun h => nomatch h
    | some ρ1 =>
      dsimp only
      cases t ρ1 with
      | st => exact fun h => nomatch h
      | ex e ρ2 => exact fun h => nomatch h
      | ok b ρ2 =>
        cases b with
        | false => exact lcL_noex e ρ'
        | true =>
          dsimp only
          cases f ρ2 with
          | st => exact fun h => nomatch h
          | ex e ρ3 => exact fun h => nomatch h
          | ok y ρ3 =>
            dsimp only
            cases lcL vs g t f ds (wipeE ρ3 vs) <;> exact fun h => nomatch h
/-- a comprehension by what holds ahead of each turn -/
theorem wo_lcL {E : Exn → DL.Env → Prop} {P : List D → DL.Env → Prop} {vs : List Nat} {g : D → DL.Env → Option DL.Env} {t : DL.Env → Out Bool} {f : DL.Env → Out D} {ds : List D} {ρ : DL.Env} (I : Nat → List D → DL.Env → Prop) (h0 : I 0 [] ρ)
    (hs : ∀ i d ys ρ, ds[i]? = some d → I i ys ρ → SO (g d ρ) fun ρ1 => WO NoE (fun b ρ2 => if b = true then WO NoE (fun y ρ3 => I (i + 1) (ys ++ [y]) (wipeE ρ3 vs)) (f ρ2) else I (i + 1) ys (wipeE ρ2 vs)) (t ρ1))
    (he : ∀ ys ρ, I ds.length ys ρ → P ys ρ) : WO E P (lcL vs g t f ds ρ) := by
  have key : ∀ (es : List D) (k : Nat) (ys : List D) (ρ : DL.Env) (P' : List D → DL.Env → Prop), (∀ i, es[i]? = ds[k + i]?) → k + es.length = ds.length → I k ys ρ → (∀ zs ρ', I ds.length (ys ++ zs) ρ' → P' zs ρ') → WO E P' (lcL vs g t f es ρ) := by
    intro es
    induction es with
    | nil =>
      intro k ys ρ P' _ hl hI hP
      have : k = ds.length := by simpa using hl
      subst this
      exact hP [] ρ (by simpa using hI)
    | cons d es ih =>
      intro k ys ρ P' hd hl hI hP
      have h1 : ds[k]? = some d := by
        have := hd 0
        simpa using this.symm
      have h2 := hs k d ys ρ h1 hI
      have hd' : ∀ i, es[i]? = ds[(k + 1) + i]? := fun i => by
        have := hd (i + 1)
        rw [List.getElem?_cons_succ] at this
        rw [this]
        congr 1
        omega
      have hl' : (k + 1) + es.length = ds.length := by simp at hl; omega
      unfold lcL
      cases hg : g d ρ with
      | none => rw [hg] at h2; exact h2.elim
      | some ρ1 =>
        rw [hg] at h2
        dsimp only [so_some] at h2 ⊢
        cases ht : t ρ1 with
        | st => rw [ht] at h2; exact h2.elim
        | ex e ρ2 => rw [ht] at h2; exact h2.elim
        | ok b ρ2 =>
          rw [ht] at h2
          dsimp only [wo_ok] at h2
          cases b with
          | false =>
            rw [if_neg (by decide)] at h2
            exact ih (k + 1) ys _ P' hd' hl' h2 hP
          | true =>
            rw [if_pos rfl] at h2
            dsimp only
            cases hf : f ρ2 with
            | st => rw [hf] at h2; exact h2.elim
            | ex e ρ3 => rw [hf] at h2; exact h2.elim
            | ok y ρ3 =>
              rw [hf] at h2
              dsimp only
              have h3 := ih (k + 1) (ys ++ [y]) (wipeE ρ3 vs) (fun zs ρ' => P' (y :: zs) ρ') hd' hl' h2 (fun zs ρ' hz => hP (y :: zs) ρ' (by simpa using hz))
              cases hr : lcL vs g t f es (wipeE ρ3 vs) with
              | st => rw [hr] at h3; exact h3.elim
              | ex e ρ4 => rw [hr] at h3; exact absurd hr (lcL_noex e ρ4)
              | ok zs ρ4 => rw [hr] at h3; exact h3
  exact key ds 0 [] ρ P (fun i => by rw [Nat.zero_add]) (by omega) h0 (fun zs ρ' hz => he zs ρ' (by simpa using hz))
end DL
namespace DC
open PySem L2 DL
/-! ### orders made from tables -/
def Tr (n : Nat) (T : Tb) : Prop := ∀ a b c, a < n → b < n → c < n → T a b = true → T b c = true → T a c = true
theorem mem_rowp {n : Nat} {T : Tb} {z x y : Nat} : (x, y) ∈ rowp n T z ↔ x = z ∧ y < n ∧ T z y = true := by
  unfold rowp
  rw [List.mem_map]
  constructor
  · rintro ⟨w, hw, e⟩
    rw [List.mem_filter, List.mem_range] at hw
    cases e
    exact ⟨rfl, hw⟩
  · rintro ⟨rfl, h⟩
    exact ⟨y, List.mem_filter.mpr ⟨List.mem_range.mpr h.1, h.2⟩, rfl⟩
theorem mem_prs {n : Nat} {T : Tb} {x y : Nat} : (x, y) ∈ prs n T ↔ x < n ∧ y < n ∧ T x y = true := by
  unfold prs
  rw [List.mem_flatMap]
  constructor
  · rintro ⟨z, hz, h⟩
    obtain ⟨rfl, h⟩ := mem_rowp.mp h
    exact ⟨List.mem_range.mp hz, h⟩
  · rintro ⟨h1, h⟩
    exact ⟨x, List.mem_range.mpr h1, mem_rowp.mpr ⟨rfl, h⟩⟩
theorem prs_bd {n : Nat} {T : Tb} : Bd n (prs n T) := fun p hp => by
  obtain ⟨x, y⟩ := p
  have := mem_prs.mp hp
  exact ⟨this.1, this.2.1⟩
theorem prs_lenn {n : Nat} {T : Tb} : (prs n T).length ≤ n * n := prs_len n
theorem clo_of {n : Nat} {ps : List (Nat × Nat)} {T : Tb} (hb : Bd n ps) (hm : ∀ x y, x < n → y < n → ((x, y) ∈ ps ↔ T x y = true)) (ht : Tr n T) {a b : Nat} (h1 : a < n) (h2 : b < n) : clo n ps a b = T a b := by
  rw [Bool.eq_iff_iff]
  constructor
  · intro e
    have := clo_least (R := fun a b => a < n ∧ b < n ∧ T a b = true) hb (fun p hp => ⟨(hb p hp).1, (hb p hp).2, (hm p.1 p.2 (hb p hp).1 (hb p hp).2).mp hp⟩) (fun a m b h1 h2 => ⟨h1.1, h2.2.1, ht a m b h1.1 h1.2.1 h2.2.1 h1.2.2 h2.2.2⟩) e
    exact this.2.2
  · intro e
    exact clo_base (p := (a, b)) hb ((hm a b h1 h2).mpr e)
theorem clo_prs {n : Nat} {T : Tb} (ht : Tr n T) {a b : Nat} (h1 : a < n) (h2 : b < n) : clo n (prs n T) a b = T a b := clo_of prs_bd (fun x y hx hy => by rw [mem_prs]; simp [hx, hy]) ht h1 h2
theorem clo_tr {n : Nat} {ps : List (Nat × Nat)} (h : Bd n ps) : Tr n (clo n ps) := fun a b c _ _ _ h1 h2 => clo_trans h h1 h2
theorem acyc_irr {n : Nat} {ps : List (Nat × Nat)} (h : Acyc n ps) : Irr n (clo n ps) := fun x _ => clo_irr h x
theorem mrow_congr {n m : Nat} {T S : Tb} (h : ∀ a b, a < m → b < n → T a b = S a b) : vec m (mrow n T) = vec m (mrow n S) := vec_ext fun a ha => by
  unfold mrow
  rw [mask_congr fun b hb => h a b ha hb]
theorem ordT_congr {n : Nat} {T S : Tb} (h : ∀ a b, a < n → b < n → T a b = S a b) : ordT n T = ordT n S := by
  unfold ordT
  rw [mrow_congr h]
abbrev newO : D := .n (.ins "Order" []) true []
abbrev bldO (n : Nat) (T : Tb) : D := .n (.ins "Order" ["n", "above"]) true [.a (.int (n : Int)), .n .tup false (vec n (mrow n T))]
theorem frz_bldO {n : Nat} {T : Tb} : frz (bldO n T) = ordT n T := by
  unfold ordT ordD
  simp
theorem frz_ordT {n : Nat} {T : Tb} : frz (ordT n T) = ordT n T := frz_isF _ isF_ordT
theorem mk_of {k : Kd} (hk : k = .lst ∨ k = .tup) {n : Nat} {ps : List (Nat × Nat)} {T : Tb} (hb : Bd n ps) (hT : ∀ a b, a < n → b < n → clo n ps a b = T a b) (hi : Irr n T) (hn : n ≤ 10) (hl : ps.length ≤ 100000) : F_OrderU_initU [.n (.ins "Order" []) true [], .a (.int (n : Int)), .n k false (ps.map prD)] = .rt (.a .non) (some (bldO n T)) := by
  have h := init_wf hk hb hn hl
  have hi' : Irr n (clo n ps) := fun x hx => by rw [hT x x hx hx]; exact hi x hx
  unfold bldO
  rw [← mrow_congr hT]
  cases hF : F_OrderU_initU [.n (.ins "Order" []) true [], .a (.int (n : Int)), .n k false (ps.map prD)] with
  | st => rw [hF] at h; exact h.elim
  | ex e io => rw [hF] at h; exact absurd hi' h.1
  | rt d io =>
    rw [hF] at h
    obtain ⟨_, rfl, rfl⟩ := h
    rfl
theorem mk_cyc {k : Kd} (hk : k = .lst ∨ k = .tup) {n : Nat} {ps : List (Nat × Nat)} (hb : Bd n ps) (hi : ¬ Irr n (clo n ps)) (hn : n ≤ 10) (hl : ps.length ≤ 100000) : ∃ io, F_OrderU_initU [.n (.ins "Order" []) true [], .a (.int (n : Int)), .n k false (ps.map prD)] = .ex cyc io := by
  have h := init_wf hk hb hn hl
  cases hF : F_OrderU_initU [.n (.ins "Order" []) true [], .a (.int (n : Int)), .n k false (ps.map prD)] with
  | st => rw [hF] at h; exact h.elim
  | ex e io => rw [hF] at h; obtain ⟨_, rfl⟩ := h; exact ⟨io, rfl⟩
  | rt d io => rw [hF] at h; exact absurd h.1 hi
theorem mk_prs {k : Kd} (hk : k = .lst ∨ k = .tup) {n : Nat} {T : Tb} (ht : Tr n T) (hi : Irr n T) (hn : n ≤ 10) : F_OrderU_initU [.n (.ins "Order" []) true [], .a (.int (n : Int)), .n k false ((prs n T).map prD)] = .rt (.a .non) (some (bldO n T)) := mk_of hk prs_bd (fun a b h1 h2 => clo_prs ht h1 h2) hi hn (by
  have := prs_lenn (n := n) (T := T)
  have h2 : n * n ≤ 10 * 10 := Nat.mul_le_mul hn hn
  omega)
theorem prs_filter {n : Nat} {T S : Tb} : (prs n T).filter (fun p => S p.1 p.2) = prs n fun x y => T x y && S x y := by
  unfold prs
  have key : ∀ l : List Nat, (l.flatMap (rowp n T)).filter (fun p => S p.1 p.2) = l.flatMap (rowp n fun x y => T x y && S x y) := by
    intro l
    induction l with
    | nil => rfl
    | cons x l ih =>
      rw [List.flatMap_cons, List.flatMap_cons, List.filter_append, ih]
      congr 1
      unfold rowp
      rw [List.filter_map, List.filter_filter]
      congr 1
      apply List.filter_congr
      intro y _
      simp [Bool.and_comm]
  exact key _
theorem same_true {n : Nat} {T S : Tb} (h : ∀ a b, a < n → b < n → T a b = S a b) (hn : n ≤ 60) : F_law_same [ordT n T, .n .lst false (vec n (brow false n S))] = .rt (.a (.bl true)) none := by
  apply wf_eq
  unfold F_law_same
  rw [wf_fn]
  unfold B_law_same
  have h1 : ∀ P : D → Prop, SO (gIsiA "Order" (ordT n T)) P = P (.a (.bl true)) := fun P => by
    unfold ordT ordD
    simp
  have hab := law_above_eq (T := S) hn
  have e : vec n (mrow n S) = vec n (mrow n T) := (mrow_congr h).symm
  simp [ioOf, isF_ordT, isFL_brow, frzL_brow, h1, fld_n, fld_above, hab, e]
  rw [eq_same (.inl rfl) fun x hx => by
    obtain ⟨i, _, rfl⟩ := mem_vec hx
    exact pD_mrow]
theorem limited_eq {n : Nat} (hn : n ≤ 10) : F_u_limited [.a (.int (n : Int))] = .rt (.a (.int (n : Int))) none := by
  apply wf_eq
  unfold F_u_limited
  rw [wf_fn]
  unfold B_u_limited
  have : ¬ (10 : Int) < n := by omega
  simp [ioOf, this]
theorem number_eq {n : Nat} (hn : n ≤ 10) : F_u_number [.a (.int (n : Int))] = .rt (.a (.int (n : Int))) none := by
  apply wf_eq
  unfold F_u_number
  rw [wf_fn]
  unfold B_u_number
  have : ¬ (n : Int) < 0 := by omega
  simp [ioOf, isint_eq, this, limited_eq hn]
abbrev T0 : Tb := fun _ _ => false
theorem mk_nil {k : Kd} (hk : k = .lst ∨ k = .tup) {n : Nat} (hn : n ≤ 10) : F_OrderU_initU [.n (.ins "Order" []) true [], .a (.int (n : Int)), .n k false []] = .rt (.a .non) (some (bldO n T0)) := by
  have hb0 : Bd n [] := fun p hp => nomatch hp
  have := mk_of (T := T0) hk hb0 (fun a b _ _ => by
    cases e : clo n [] a b with
    | false => rfl
    | true => exact (clo_least hb0 (R := fun _ _ => False) (fun p hp => nomatch hp) (fun _ _ _ h _ => h) e).elim) (fun x _ => rfl) hn (by simp)
  exact this
theorem anti_eq {n : Nat} (hn : n ≤ 10) : F_antichain [.a (.int (n : Int))] = .rt (bldO n T0) none := by
  apply wf_eq
  unfold F_antichain
  rw [wf_fn]
  unfold B_antichain
  simp [ioOf, number_eq hn, mk_nil (.inl rfl) hn]
end DC
namespace DC
open PySem L2 DL
/-! ### common parts, unions, keeping -/
theorem nfp : ¬ ("pairs" : Str) = "n" ∧ ¬ ("pairs" : Str) = "above" := by decide +kernel
theorem nfl : ¬ ("less" : Str) = "n" ∧ ¬ ("less" : Str) = "above" := by decide +kernel
theorem nfm : ¬ ("at_most" : Str) = "n" ∧ ¬ ("at_most" : Str) = "above" := by decide +kernel
theorem nfs : ¬ ("size" : Str) = "n" ∧ ¬ ("size" : Str) = "above" := by decide +kernel
theorem pairs_eq' {n : Nat} {T : Tb} (hn : n ≤ 60) : F_Order_pairs [.n (.ins "Order" ["n", "above"]) false [.a (.int (n : Int)), .n .tup false (vec n (mrow n T))]] = .rt (.n .tup false ((prs n T).map prD)) none := pairs_eq hn
theorem less_eq' {n x y : Nat} {T : Tb} (hx : x < n) (hy : y < n) : F_Order_less [.n (.ins "Order" ["n", "above"]) false [.a (.int (n : Int)), .n .tup false (vec n (mrow n T))], .a (.int (x : Int)), .a (.int (y : Int))] = .rt (.a (.bl (T x y))) none := less_eq hx hy
theorem at_most_eq' {n x y : Nat} {T : Tb} (hx : x < n) (hy : y < n) : F_Order_at_most [.n (.ins "Order" ["n", "above"]) false [.a (.int (n : Int)), .n .tup false (vec n (mrow n T))], .a (.int (x : Int)), .a (.int (y : Int))] = .rt (.a (.bl (decide (x = y) || T x y))) none := at_most_eq hx hy
theorem size_eq' {n : Nat} {T : Tb} : F_Order_size [.n (.ins "Order" ["n", "above"]) false [.a (.int (n : Int)), .n .tup false (vec n (mrow n T))]] = .rt (.a (.int (n : Int))) none := size_eq
@[simp] theorem o_listT {o : Bool} {xs : List D} {P : D → Prop} : SO (gList (.n .tup o xs)) P = P (.lst true xs) := rfl
def fstD : D → Nat
  | .n _ _ (d :: _) => natOf d
  | _ => 0
def sndD : D → Nat
  | .n _ _ (_ :: d :: _) => natOf d
  | _ => 0
@[simp] theorem fstD_pr {p : Nat × Nat} : fstD (prD p) = p.1 := rfl
@[simp] theorem sndD_pr {p : Nat × Nat} : sndD (prD p) = p.2 := rfl
theorem filter_prD {l : List (Nat × Nat)} {S : Tb} : ((l.map prD).filter fun d => S (fstD d) (sndD d)).map (fun d => d) = (l.filter fun p => S p.1 p.2).map prD := by
  rw [List.map_id', List.filter_map]
  rfl
theorem common_eq {k : Kd} (hk : k = .lst ∨ k = .tup) {n m : Nat} {Ts : Nat → Tb} (hn : n ≤ 10) (hm : 0 < m) (hm2 : m ≤ 1000) (ht : ∀ i, i < m → Tr n (Ts i)) (hi : ∀ i, i < m → Irr n (Ts i)) : F_common_part [.n k false (vec m fun i => ordT n (Ts i))] = .rt (bldO n fun x y => (List.range m).all fun i => Ts i x y) none := by
  apply wf_eq
  unfold F_common_part
  rw [wf_fn]
  unfold B_common_part
  have hfl : isFL (vec m fun i => ordT n (Ts i)) = true := isFL_vec fun _ _ => isF_ordT
  have e1 : ∀ P : D → Prop, SO (gIsi2 "list" "tuple" (.n k false (vec m fun i => ordT n (Ts i)))) P = P (.a (.bl true)) := fun P => by
    rcases hk with rfl | rfl <;> simp [gIsi2, tyN, isiT]
  have e2 : ∀ P : List D → Prop, SO (itemsOf (.n k false (vec m fun i => ordT n (Ts i)))) P = P (vec m fun i => ordT n (Ts i)) := fun P => by
    rcases hk with rfl | rfl <;> simp <;> omega
  have e3 : ∀ P : D → Prop, SO (gLen (.n k false (vec m fun i => ordT n (Ts i)))) P = P (.a (.int (m : Int))) := fun P => by
    rcases hk with rfl | rfl <;> simp
  have e4 : ∀ P : D → Prop, SO (gIx (.n k false (vec m fun i => ordT n (Ts i))) (.a (.int 0))) P = P (ordT n (Ts 0)) := fun P => by
    have := fun o => so_ixLF (n := m) (x := 0) (f := fun i => ordT n (Ts i)) (o := o) (P := P) hm isF_ordT
    have h2 := fun o => so_ixTF (n := m) (x := 0) (f := fun i => ordT n (Ts i)) (o := o) (P := P) hm isF_ordT
    rcases hk with rfl | rfl
    · exact this false
    · exact h2 false
  have hm0 : ¬ (m : Int) = 0 := by omega
  have hlen : ∀ (S : Tb) (P : D → Prop), SO (gLenO "Order" F_OrderU_lenU (ordT n S)) P = P (.a (.int (n : Int))) := fun S P => o_len_ord (by omega)
  have hsq : n * n ≤ 10 * 10 := Nat.mul_le_mul hn hn
  have hpl : ∀ S : Tb, (prs n S).length ≤ 100 := fun S => Nat.le_trans prs_lenn hsq
  refine wp_step fun K hK => ?_
  simp [hfl, e1, e3, hm0]
  refine ⟨by omega, ?_⟩
  apply hK
  clear hK K
  refine wp_step fun K hK => ?_
  simp [hfl, e4]
  apply hK
  clear hK K
  refine wp_step fun K hK => ?_
  simp [isF_ordT, asIns_ord, pairs_eq' (show n ≤ 60 by omega)]
  refine ⟨nfp, ?_⟩
  apply hK
  clear hK K
  refine wp_cutK (fun ρ => ∃ v3 : Option D, ρ = [some (.n k false (vec m fun i => ordT n (Ts i))), some (ordT n (Ts 0)), some (.n .lst false ((prs n fun x y => Ts 0 x y && (List.range m).all fun i => Ts i x y).map prD)), v3, none, none]) (fun K hK => ?_) ?_
  · simp [hfl, e2]
    refine wp_for (fun j ρ => ∃ v3 : Option D, ρ = [some (.n k false (vec m fun i => ordT n (Ts i))), some (ordT n (Ts 0)), some (.n .lst false ((prs n fun x y => Ts 0 x y && (List.range j).all fun i => Ts i x y).map prD)), v3, none, none]) ?_ ?_ ?_
    · exact ⟨none, by simp⟩
    · intro j d ρ hd h
      obtain ⟨v3, hρ⟩ := h
      subst hρ
      have hq := vec_get' hd
      have hj := hq.1
      have he := hq.2
      subst he
      simp [isF_ordT, hlen]
      have hl0 := hpl (fun x y => Ts 0 x y && (List.range j).all fun i => Ts i x y)
      generalize hS : (fun x y => Ts 0 x y && (List.range j).all fun i => Ts i x y) = S at *
      refine ⟨by omega, ?_⟩
      rw [lcL_run (fun d => Ts j (fstD d) (sndD d)) (fun d => d)]
      · rw [wo_ok, filter_prD, prs_filter]
        simp
        congr 2
        funext x y
        rw [← hS, List.range_succ, List.all_append]
        simp [Bool.and_assoc]
      · intro d hd
        obtain ⟨p, hp, rfl⟩ := List.mem_map.mp hd
        obtain ⟨x, y⟩ := p
        have hxy := mem_prs.mp hp
        simp [prD, natD, isF_ordT, asIns_ord, less_eq' hxy.1 hxy.2.1]
        refine ⟨nfl, rfl⟩
    · intro ρ h
      obtain ⟨v3, hρ⟩ := h
      subst hρ
      apply hK
      rw [vec_len]
      exact ⟨v3, rfl⟩
  · rintro ρ ⟨v3, rfl⟩
    have e5 : (fun x y => Ts 0 x y && (List.range m).all fun i => Ts i x y) = fun x y => (List.range m).all fun i => Ts i x y := by
      funext x y
      cases h : (List.range m).all fun i => Ts i x y with
      | false => simp
      | true =>
        rw [List.all_eq_true] at h
        rw [h 0 (List.mem_range.mpr hm)]
        rfl
    rw [e5]
    have tr : Tr n fun x y => (List.range m).all fun i => Ts i x y := fun a b c h1 h2 h3 q1 q2 => by
      rw [List.all_eq_true] at q1 q2 ⊢
      intro i hi'
      exact ht i (List.mem_range.mp hi') a b c h1 h2 h3 (q1 i hi') (q2 i hi')
    have ir : Irr n fun x y => (List.range m).all fun i => Ts i x y := fun x hx => by
      show ((List.range m).all fun i => Ts i x x) = false
      cases h : (List.range m).all fun i => Ts i x x with
      | false => rfl
      | true =>
        rw [List.all_eq_true] at h
        have := h 0 (List.mem_range.mpr hm)
        rw [hi 0 hm x hx] at this
        cases this
    simp [ioOf, isF_ordT, hlen, mk_prs (.inl rfl) tr ir hn]
theorem united_wf {n : Nat} {S T : Tb} (hn : n ≤ 10) : WF (fun e _ => ¬ Irr n (clo n (prs n S ++ prs n T)) ∧ e = cyc) (fun d io => Irr n (clo n (prs n S ++ prs n T)) ∧ d = bldO n (clo n (prs n S ++ prs n T)) ∧ io = none) (F_united [ordT n S, ordT n T]) := by
  unfold F_united
  rw [wf_fn]
  unfold B_united
  have hlen : ∀ (S : Tb) (P : D → Prop), SO (gLenO "Order" F_OrderU_lenU (ordT n S)) P = P (.a (.int (n : Int))) := fun S P => o_len_ord (by omega)
  have hsq : n * n ≤ 10 * 10 := Nat.mul_le_mul hn hn
  have hpl : ∀ S : Tb, (prs n S).length ≤ 100 := fun S => Nat.le_trans prs_lenn hsq
  have h1 := hpl S
  have h2 := hpl T
  have e : ∀ P : D → Prop, SO (gAdd (.n .tup false ((prs n S).map prD)) (.n .tup false ((prs n T).map prD))) P = P (.tup ((prs n S ++ prs n T).map prD)) := fun P => by
    have hc : (prs n S).length + (prs n T).length ≤ 1000000 := by omega
    unfold gAdd gOr gAddI gII gCatL gCatT
    simp [hc]
  have hbd : Bd n (prs n S ++ prs n T) := fun p hp => by
    rcases List.mem_append.mp hp with h | h <;> exact prs_bd p h
  have hii := init_wf (.inr rfl) hbd hn (by rw [List.length_append]; omega)
  have hfz := frzL_pr (l := prs n S ++ prs n T)
  have hfl := isFL_pr (l := prs n S ++ prs n T)
  simp only [List.map_append] at hii e hfz hfl
  simp [isF_ordT, hlen, asIns_ord, pairs_eq' (show n ≤ 60 by omega), nfp, e, ioOf, hfz]
  cases hF : F_OrderU_initU [.n (.ins "Order" []) true [], .a (.int (n : Int)), .n .tup false ((prs n S).map prD ++ (prs n T).map prD)] with
  | st => rw [hF] at hii; exact hii.elim
  | ex e io => rw [hF] at hii; exact hii
  | rt d io =>
    rw [hF] at hii
    obtain ⟨h3, rfl, rfl⟩ := hii
    simp
    exact h3
theorem united_bad {n m : Nat} {S T : Tb} (hn : n ≤ 10) (hm : m ≤ 20) (h : n ≠ m) : ∃ io, F_united [ordT n S, ordT m T] = .ex ⟨"Malformed", []⟩ io := by
  have key : WF (fun e _ => e = ⟨"Malformed", []⟩) (fun _ _ => False) (F_united [ordT n S, ordT m T]) := by
    unfold F_united
    rw [wf_fn]
    unfold B_united
    have hlen : ∀ (P : D → Prop), SO (gLenO "Order" F_OrderU_lenU (ordT n S)) P = P (.a (.int (n : Int))) := fun P => o_len_ord (by omega)
    have hlen2 : ∀ (P : D → Prop), SO (gLenO "Order" F_OrderU_lenU (ordT m T)) P = P (.a (.int (m : Int))) := fun P => o_len_ord (by omega)
    have h1 : ¬ (n : Int) = m := by omega
    simp [isF_ordT, hlen, hlen2, h1]
  cases hF : F_united [ordT n S, ordT m T] with
  | st => rw [hF] at key; exact key.elim
  | ex e io => rw [hF] at key; exact ⟨io, by rw [show e = _ from key]⟩
  | rt d io => rw [hF] at key; exact key.elim
theorem band_nat (a b : Nat) : Builtin.bitAnd (a : Int) (b : Int) = ((a &&& b : Nat) : Int) := PySem.W.os_band a b
theorem mask_sub {n : Nat} {f g : Nat → Bool} : (mask n f &&& mask n g = mask n f) ↔ ∀ y, y < n → f y = true → g y = true := by
  constructor
  · intro h y hy hf
    have := congrArg (fun m => m.testBit y) h
    simp [Nat.testBit_and, mask_bit, hy, hf] at this
    exact this
  · intro h
    apply Nat.eq_of_testBit_eq
    intro y
    rw [Nat.testBit_and, mask_bit, mask_bit]
    by_cases hy : y < n
    · cases hf : f y with
      | false => simp
      | true => simp [hy, h y hy hf]
    · simp [hy]
theorem is_part_eq {a b : Nat} : F_is_part [.a (.int (a : Int)), .a (.int (b : Int))] = .rt (.a (.bl (decide (a &&& b = a)))) none := by
  apply wf_eq
  unfold F_is_part
  rw [wf_fn]
  unfold B_is_part
  simp [ioOf, band_nat]
  omega
theorem keeps_eq {n : Nat} {S T : Tb} (hn : n ≤ 60) : F_keeps [ordT n S, ordT n T] = .rt (.a (.bl (decide (∀ x, x < n → ∀ y, y < n → T x y = true → S x y = true)))) none := by
  apply wf_eq
  unfold F_keeps
  rw [wf_fn]
  unfold B_keeps
  have hlen : ∀ (S : Tb) (P : D → Prop), SO (gLenO "Order" F_OrderU_lenU (ordT n S)) P = P (.a (.int (n : Int))) := fun S P => o_len_ord (by omega)
  simp [isF_ordT, hlen, intL_vec]
  refine ⟨by omega, ?_⟩
  rw [lcL_run (tbI fun x => !decide (mask n (T x) &&& mask n (S x) = mask n (T x))) (fun d => d)]
  · rw [wo_ok, filter_vecI]
    simp [ioOf, List.filter_eq_nil_iff]
    constructor
    · intro h x hx
      exact mask_sub.mp (h x hx)
    · intro h x hx
      exact mask_sub.mpr (h x hx)
  · intro d hd
    obtain ⟨x, hx, rfl⟩ := mem_vec hd
    simp [isF_ordT, fld_above, so_ixTF (f := mrow n T) (o := false) hx rfl, so_ixTF (f := mrow n S) (o := false) hx rfl]
    simp [mrow, is_part_eq, tbI]
theorem keeps_bad {n m : Nat} {S T : Tb} (hn : n ≤ 60) (hm : m ≤ 61) (h : n ≠ m) : F_keeps [ordT n S, ordT m T] = .rt (.a (.bl false)) none := by
  apply wf_eq
  unfold F_keeps
  rw [wf_fn]
  unfold B_keeps
  have hlen : ∀ (P : D → Prop), SO (gLenO "Order" F_OrderU_lenU (ordT n S)) P = P (.a (.int (n : Int))) := fun P => o_len_ord (by omega)
  have hlen2 : ∀ (P : D → Prop), SO (gLenO "Order" F_OrderU_lenU (ordT m T)) P = P (.a (.int (m : Int))) := fun P => o_len_ord (by omega)
  have h1 : ¬ (n : Int) = m := by omega
  simp [isF_ordT, hlen, hlen2, h1, ioOf]
theorem pairs_wf {st : D} (h : Stt st) (n : Nat) (hn : n ≤ 60) : WF NoE (fun d io => ∃ (ps : List (Nat × Nat)), d = .lst false (ps.map prD) ∧ Acyc n ps ∧ ps.length ≤ 10000 ∧ ∃ st', io = some st' ∧ Stt st') (F_law_pairs [st, .int n]) := by
  unfold F_law_pairs
  rw [wf_fn]
  unfold B_law_pairs
  simp [ioOf]
  refine (shuffled_wf h n (by omega)).mono ?_
  rintro d io ⟨xs, rfl, hp, st2, rfl, h2⟩
  have nd : xs.Nodup := hp.symm.nodup_iff.mp List.nodup_range
  have hlx : xs.length = n := by simpa using hp.length_eq
  have hlt : ∀ x ∈ xs, x < n := fun x hx => by simpa using hp.mem_iff.mp hx
  simp
  refine ⟨by omega, ?_⟩
  refine wp_for (fun i ρ => ∃ (st : D) (ps : List (Nat × Nat)) (vx vy : Option D), ρ = [some st, some (.int n), some (.tup (xs.map natD)), some (.lst true (ps.map prD)), vx, vy] ∧ Stt st ∧ PsOk n (fun v => xs.idxOf v) ps ∧ ps.length ≤ 100 * i) ?_ ?_ ?_
  · exact ⟨st2, [], none, none, rfl, h2, fun p hp => (nomatch hp), by simp⟩
  · intro i d ρ hd h
    obtain ⟨st, ps, vx, vy, hρ, h3, h4, h5⟩ := h
    subst hρ
    obtain ⟨rfl, hi⟩ := intL_get hd
    simp
    refine ⟨by omega, ?_⟩
    refine wp_for (fun j ρ => ∃ (st : D) (ps : List (Nat × Nat)) (vy : Option D), ρ = [some st, some (.int n), some (.tup (xs.map natD)), some (.lst true (ps.map prD)), some (.a (.int i)), vy] ∧ Stt st ∧ PsOk n (fun v => xs.idxOf v) ps ∧ ps.length ≤ 100 * i + j) ?_ ?_ ?_
    · exact ⟨st, ps, vy, rfl, h3, h4, h5⟩
    · intro j d ρ hd h
      obtain ⟨st, ps, vy, hρ, h3, h4, h5⟩ := h
      subst hρ
      obtain ⟨rfl, hj⟩ := intL_get hd
      have hi2 : i < xs.length := by omega
      have hj2 : i + 1 + j < xs.length := by omega
      simp
      refine (take_wf h3 2 (by decide) (by decide)).mono ?_
      rintro d io ⟨v, rfl, v0, v1, st', rfl, h6⟩
      simp
      split
      · rw [show ((i : Int) + 1 + (j : Int)) = ((i + 1 + j : Nat) : Int) by omega]
        refine ix_tup (List.getElem?_eq_getElem hi2) ?_
        refine ix_tup (List.getElem?_eq_getElem hj2) ?_
        simp
        refine ⟨by omega, _, ps ++ [(xs[i], xs[i + 1 + j])], ⟨rfl, by simp [prD]⟩, h6, ?_, by simp; omega⟩
        intro p hp
        rcases List.mem_append.mp hp with hp | hp
        · exact h4 p hp
        · simp at hp
          subst hp
          refine ⟨hlt _ (List.getElem_mem _), hlt _ (List.getElem_mem _), ?_⟩
          show List.idxOf xs[i] xs < List.idxOf xs[i + 1 + j] xs
          rw [idxOf_get nd i hi2, idxOf_get nd _ hj2]
          omega
      · exact ⟨_, ps, ⟨rfl, rfl⟩, h6, h4, by omega⟩
    · intro ρ h
      obtain ⟨st, ps, vy, hρ, h3, h4, h5⟩ := h
      subst hρ
      simp [intL_len] at h5
      exact ⟨st, ps, ⟨_, _, rfl⟩, h3, h4, by omega⟩
  · intro ρ h
    obtain ⟨st, ps, vx, vy, hρ, h3, h4, h5⟩ := h
    subst hρ
    simp
    rw [intL_len] at h5
    exact ⟨ps, rfl, ⟨_, h4⟩, by omega, h3⟩
end DC
namespace DL
open PySem L2
section
variable {Q : Ps} {ρ : DL.Env} {i j : Nat} {g : DL.Env → Out (List Ag)}
def as2 (ds : List Ag) (P : D → D → Prop) : Prop := match ds with
  | [.d a, .d b] => P a b
  | _ => False
@[simp] theorem as2_two {a b : D} {P : D → D → Prop} : as2 [.d a, .d b] P = P a b := rfl
@[simp] theorem p_Par : WP Q (dPar i j g ρ) = WO Q.ex (fun ds ρ1 => as2 ds fun a b => (i < ρ1.length ∧ j < ρ1.length) ∧ Q.nx ((ρ1.set i (some a)).set j (some b))) (g ρ) := by
  unfold dPar
  cases g ρ with
  | st => rfl
  | ex e ρ1 => rfl
  | ok ds ρ1 =>
    dsimp only [wo_ok]
    match ds with
    | [] => rfl
    | [.s _] => rfl
    | [.d _] => rfl
    | [.s _, .s _] => rfl
    | [.s _, .d _] => rfl
    | [.d _, .s _] => rfl
    | [.d a, .d b] =>
      dsimp only [as2]
      split
      · rename_i h; simp [h]
      · rename_i h; simp only [h, false_and]; rfl
    | _ :: _ :: _ :: _ =>
      rename_i a b c d
      cases a <;> cases b <;> rfl
end
theorem backE_one' {ρ1 ρ ρb : DL.Env} {v : Nat} {o : Option D} (h : backE ρ1 [v] ρ = ρb) (h1 : ρ1[v]? = some o) (hn : ρ[v]? = some none) : ∃ o', ρb = ρ.set v o' := by
  subst h
  exact backE_one h1 hn
/-- a loop, the invariant of the next turn kept out of sight -/
theorem wp_forK {Q : Ps} {ρ : DL.Env} {f : DL.Env → Fl} {g : D → DL.Env → Option DL.Env} {ds : List D} (I : Nat → DL.Env → Prop) (h0 : I 0 ρ)
    (hs : ∀ i d ρ, ds[i]? = some d → I i ρ → ∀ J : DL.Env → Prop, (∀ ρ', I (i + 1) ρ' → J ρ') → SO (g d ρ) fun ρ1 => WP ⟨J, Q.rt, Q.nx, J, Q.ex⟩ (f ρ1)) (he : ∀ ρ, I ds.length ρ → Q.nx ρ) : WP Q (forL g f ds ρ) :=
  wp_for I h0 (fun i d ρ hd h => hs i d ρ hd h _ fun _ h => h) he
theorem wo_lcK {E : Exn → DL.Env → Prop} {P : List D → DL.Env → Prop} {vs : List Nat} {g : D → DL.Env → Option DL.Env} {t : DL.Env → Out Bool} {f : DL.Env → Out D} {ds : List D} {ρ : DL.Env} (I : Nat → List D → DL.Env → Prop) (h0 : I 0 [] ρ)
    (hs : ∀ i d ys ρ, ds[i]? = some d → I i ys ρ → ∀ J : List D → DL.Env → Prop, (∀ ys' ρ', I (i + 1) ys' ρ' → J ys' ρ') → SO (g d ρ) fun ρ1 => WO NoE (fun b ρ2 => if b = true then WO NoE (fun y ρ3 => J (ys ++ [y]) (wipeE ρ3 vs)) (f ρ2) else J ys (wipeE ρ2 vs)) (t ρ1))
    (he : ∀ ys ρ, I ds.length ys ρ → P ys ρ) : WO E P (lcL vs g t f ds ρ) :=
  wo_lcL I h0 (fun i d ys ρ hd h => hs i d ys ρ hd h _ fun _ _ h => h) he
theorem wf_exx {r : FR} {e : Exn} (h : WF (fun e' _ => e' = e) (fun _ _ => False) r) : ∃ io, r = .ex e io := by
  cases r with
  | rt d' io' => exact h.elim
  | ex e' io => exact ⟨io, by rw [show e' = e from h]⟩
  | st => exact h.elim
end DL
namespace DC
open PySem L2 DL
theorem vec_succ {n : Nat} {f : Nat → D} : vec (n + 1) f = vec n f ++ [f n] := by simp [vec, List.range_succ]
/-- one more item -/
def extf {α : Type} (f : Nat → α) (i : Nat) (x : α) : Nat → α := fun j => if j < i then f j else x
theorem extf_vec {α : Type} {f : Nat → α} {i : Nat} {x : α} {g : α → D} : vec i (fun j => g (f j)) ++ [g x] = vec (i + 1) fun j => g (extf f i x j) := by
  rw [vec_succ]
  congr 1
  · exact vec_ext fun j hj => by unfold extf; rw [if_pos hj]
  · unfold extf; rw [if_neg (Nat.lt_irrefl i)]
theorem extf_all {α : Type} {f : Nat → α} {i : Nat} {x : α} {P : α → Prop} (h : ∀ j, j < i → P (f j)) (hx : P x) : ∀ j, j < i + 1 → P (extf f i x j) := fun j hj => by
  unfold extf
  by_cases q : j < i
  · rw [if_pos q]; exact h j q
  · rw [if_neg q]; exact hx
theorem frzL_rows {n : Nat} {f g : Nat → D} (h : ∀ i, i < n → frz (f i) = g i) : frzL (vec n f) = vec n g := by
  rw [frzL_vec]; exact vec_ext h
theorem blsOf_vec {n : Nat} {f : Nat → Bool} : blsOf (vec n fun i => .a (.bl (f i))) = some ((List.range n).map f) := by
  unfold vec
  generalize List.range n = l
  induction l with
  | nil => rfl
  | cons x l ih => rw [List.map_cons, List.map_cons]; unfold blsOf; rw [ih]; rfl
theorem o_all {o : Bool} {n : Nat} {f : Nat → Bool} {P : D → Prop} : SO (gAll (.n .lst o (vec n fun i => .a (.bl (f i))))) P = P (.a (.bl ((List.range n).all f))) := by
  unfold gAll
  dsimp only
  rw [blsOf_vec]
  simp [List.all_map]
theorem o_any {o : Bool} {n : Nat} {f : Nat → Bool} {P : D → Prop} : SO (gAny (.n .lst o (vec n fun i => .a (.bl (f i))))) P = P (.a (.bl ((List.range n).any f))) := by
  unfold gAny
  dsimp only
  rw [blsOf_vec]
  simp [List.any_map]
theorem catL {o o' : Bool} {xs ys : List D} {P : D → Prop} (h1 : isFL xs = true) (h2 : isFL ys = true) (hl : xs.length + ys.length ≤ 1000000) : SO (gAdd (.n .lst o xs) (.n .lst o' ys)) P = P (.lst true (xs ++ ys)) := by
  unfold gAdd gOr gAddI gII gCatL
  simp [hl, h1, h2]
theorem catT {o o' : Bool} {xs ys : List D} {P : D → Prop} (h1 : isFL xs = true) (h2 : isFL ys = true) (hl : xs.length + ys.length ≤ 1000000) : SO (gAdd (.n .tup o xs) (.n .tup o' ys)) P = P (.tup (xs ++ ys)) := by
  unfold gAdd gOr gAddI gII gCatL gCatT
  simp [hl, h1, h2]
/-- the union's closing -/
theorem clo_union {n : Nat} {ps qs : List (Nat × Nat)} (h1 : Bd n ps) (h2 : Bd n qs) : clo n (prs n (clo n ps) ++ prs n (clo n qs)) = clo n (ps ++ qs) := by
  have hb : Bd n (ps ++ qs) := fun p hp => by
    rcases List.mem_append.mp hp with h | h
    · exact h1 p h
    · exact h2 p h
  have hb' : Bd n (prs n (clo n ps) ++ prs n (clo n qs)) := fun p hp => by
    rcases List.mem_append.mp hp with h | h <;> exact prs_bd p h
  funext a b
  rw [Bool.eq_iff_iff]
  constructor
  · intro e
    refine clo_least (R := fun a b => clo n (ps ++ qs) a b = true) hb' ?_ (fun a m b h1 h2 => clo_trans hb h1 h2) e
    rintro ⟨x, y⟩ hp
    rcases List.mem_append.mp hp with h | h
    · exact clo_least (R := fun a b => clo n (ps ++ qs) a b = true) h1 (fun p hp => clo_base hb (List.mem_append_left _ hp)) (fun a m b h1 h2 => clo_trans hb h1 h2) (mem_prs.mp h).2.2
    · exact clo_least (R := fun a b => clo n (ps ++ qs) a b = true) h2 (fun p hp => clo_base hb (List.mem_append_right _ hp)) (fun a m b h1 h2 => clo_trans hb h1 h2) (mem_prs.mp h).2.2
  · intro e
    refine clo_least (R := fun a b => clo n (prs n (clo n ps) ++ prs n (clo n qs)) a b = true) hb ?_ (fun a m b h1 h2 => clo_trans hb' h1 h2) e
    rintro ⟨x, y⟩ hp
    rcases List.mem_append.mp hp with h | h
    · have := clo_base h1 h
      exact clo_base (p := (x, y)) hb' (List.mem_append_left _ (mem_prs.mpr ⟨(h1 _ h).1, (h1 _ h).2, this⟩))
    · have := clo_base h2 h
      exact clo_base (p := (x, y)) hb' (List.mem_append_right _ (mem_prs.mpr ⟨(h2 _ h).1, (h2 _ h).2, this⟩))
theorem not_irr {n : Nat} {T : Tb} : (0 < ((List.range n).filter fun x => T x x).length) ↔ ¬ Irr n T := by
  rw [List.length_pos_iff]
  constructor
  · intro h hi
    apply h
    rw [List.filter_eq_nil_iff]
    intro x hx
    rw [hi x (by simpa using hx)]
    simp
  · intro h e
    apply h
    intro x hx
    have := List.filter_eq_nil_iff.mp e x (by simpa using hx)
    simpa using this
theorem lkMM : List.lookup ("Malformed" : Str) ([("Malformed", true), ("Refused", false)] : List (Str × Bool)) = some true := by decide +kernel
theorem lkMR : List.lookup ("Refused" : Str) ([("Malformed", true), ("Refused", false)] : List (Str × Bool)) = some false := by decide +kernel
theorem lkRR : List.lookup ("Refused" : Str) ([("Malformed", false), ("Refused", true)] : List (Str × Bool)) = some true := by decide +kernel
end DC
namespace DL
open PySem L2
@[simp] theorem p_Ext {Q : Ps} {ρ : DL.Env} {i : Nat} {o : Bool} {ys : List D} : WP Q (stExt i (.n .lst o ys) ρ) = SO (ρ[i]?) (fun o => SO o fun x => asL x fun xs => (xs.length + ys.length ≤ cap ∧ isFL ys = true) ∧ Q.nx (ρ.set i (some (.lst true (xs ++ ys))))) := by
  unfold stExt
  split
  · rename_i xs h
    rw [h]
    dsimp only [so_some, asL_lst]
    split
    · rename_i h; simp [h]
    · rename_i h; simp only [h, false_and]; rfl
  · rename_i h
    cases e : ρ[i]? with
    | none => rfl
    | some o =>
      cases o with
      | none => rfl
      | some d =>
        dsimp only [so_some]
        rw [asL_cases fun xs z => h xs (by rw [e, z])]
        rfl
end DL
namespace DC
open PySem L2 DL
/-! ### products and lexicographic sums -/
def prodT (n : Nat) (A B : Tb) : Tb := fun p q => !decide (p = q) && ((decide (p / n = q / n) || A (p / n) (q / n)) && (decide (p % n = q % n) || B (p % n) (q % n)))
theorem prodT_iff {n : Nat} {A B : Tb} {p q : Nat} : prodT n A B p q = true ↔ p ≠ q ∧ (p / n = q / n ∨ A (p / n) (q / n) = true) ∧ (p % n = q % n ∨ B (p % n) (q % n) = true) := by
  unfold prodT
  simp
theorem divmod_eq {n p q : Nat} (h1 : p / n = q / n) (h2 : p % n = q % n) : p = q := by
  rw [← Nat.div_add_mod p n, ← Nat.div_add_mod q n, h1, h2]
theorem divlt {m n p : Nat} (h : p < m * n) : p / n < m ∧ p % n < n := by
  have hn : 0 < n := by
    rcases Nat.eq_zero_or_pos n with e | e
    · subst e; simp at h
    · exact e
  exact ⟨Nat.div_lt_of_lt_mul (by rw [Nat.mul_comm]; exact h), Nat.mod_lt _ hn⟩
theorem leq_trans {m : Nat} {A : Tb} (tA : Tr m A) {a b c : Nat} (ha : a < m) (hb : b < m) (hc : c < m) (h1 : a = b ∨ A a b = true) (h2 : b = c ∨ A b c = true) : a = c ∨ A a c = true := by
  rcases h1 with rfl | h1
  · exact h2
  · rcases h2 with rfl | h2
    · exact .inr h1
    · exact .inr (tA a b c ha hb hc h1 h2)
theorem leq_anti {m : Nat} {A : Tb} (tA : Tr m A) (iA : Irr m A) {a b : Nat} (ha : a < m) (hb : b < m) (h1 : a = b ∨ A a b = true) (h2 : b = a ∨ A b a = true) : a = b := by
  rcases h1 with h1 | h1
  · exact h1
  · rcases h2 with h2 | h2
    · exact h2.symm
    · have := tA a b a ha hb ha h1 h2
      rw [iA a ha] at this
      cases this
theorem prodT_tr {m n : Nat} {A B : Tb} (tA : Tr m A) (iA : Irr m A) (tB : Tr n B) (iB : Irr n B) : Tr (m * n) (prodT n A B) := fun p q r hp hq hr h1 h2 => by
  rw [prodT_iff] at h1 h2 ⊢
  obtain ⟨n1, a1, b1⟩ := h1
  obtain ⟨n2, a2, b2⟩ := h2
  have dp := divlt hp
  have dq := divlt hq
  have dr := divlt hr
  refine ⟨?_, leq_trans tA dp.1 dq.1 dr.1 a1 a2, leq_trans tB dp.2 dq.2 dr.2 b1 b2⟩
  rintro rfl
  exact n1 (divmod_eq (leq_anti tA iA dp.1 dq.1 a1 a2) (leq_anti tB iB dp.2 dq.2 b1 b2))
theorem prodT_irr {N n : Nat} {A B : Tb} : Irr N (prodT n A B) := fun x _ => by unfold prodT; simp
theorem product_eq {m n : Nat} {A B : Tb} (hN : m * n ≤ 10) (hm : m ≤ 60) (hn : n ≤ 60) (tA : Tr m A) (iA : Irr m A) (tB : Tr n B) (iB : Irr n B) : F_product [ordT m A, ordT n B] = .rt (bldO (m * n) (prodT n A B)) none := by
  apply wf_eq
  unfold F_product
  rw [wf_fn]
  unfold B_product
  have hlen : ∀ (k : Nat) (S : Tb) (P : D → Prop), k ≤ 60 → SO (gLenO "Order" F_OrderU_lenU (ordT k S)) P = P (.a (.int (k : Int))) := fun k S P hk => o_len_ord (by omega)
  have hmo : mulOk (m : Int) (n : Int) = true := mulOk_of (bits_c (n := 10) (by simp; omega)) (bits_c (n := 10) (by simp; omega)) (by decide)
  have hlim : F_u_limited [.a (.int ((m : Int) * n))] = .rt (.a (.int ((m : Int) * n))) none := by
    have := limited_eq hN
    simpa using this
  refine wp_step fun K hK => ?_
  simp [isF_ordT, hlen, hn]
  apply hK
  clear hK K
  refine wp_step fun K hK => ?_
  simp [isF_ordT, hlen, hm, hmo, hlim]
  apply hK
  clear hK K
  refine wp_step fun K hK => ?_
  simp
  apply hK
  clear hK K
  rw [show ((m : Int) * n) = ((m * n : Nat) : Int) by simp]
  have tr := prodT_tr tA iA tB iB
  have ir : Irr (m * n) (prodT n A B) := prodT_irr
  refine wp_cutK (fun ρ => ∃ v5 v6 : Option D, ρ = [some (ordT m A), some (ordT n B), some (.a (.int (n : Int))), some (.a (.int ((m * n : Nat) : Int))), some (.n .lst false ((prs (m * n) (prodT n A B)).map prD)), v5, v6]) (fun K hK => ?_) ?_
  · rw [wx, p_Frz]
    refine wp_prs (n := m * n) (T := prodT n A B) (by decide) (by decide) (by decide) (by decide) (by decide) (by decide) (by simp) (by simp) (by simp) rfl (by omega) rfl ?_ ?_
    · intro p q hp hq ps
      have dp := divlt hp
      have dq := divlt hq
      apply out_eq
      have hn0 : 0 < n := by
        rcases Nat.eq_zero_or_pos n with e | e
        · subst e; simp at hp
        · exact e
      have hd : divOk (p : Int) (n : Int) = true := divOk_small (by omega) (by omega)
      have hd2 : divOk (q : Int) (n : Int) = true := divOk_small (by omega) (by omega)
      have q1 := at_most_eq' (T := A) dp.1 dq.1
      have q2 := at_most_eq' (T := B) dp.2 dq.2
      simp only [Int.natCast_ediv, Int.natCast_emod] at q1 q2
      simp [natD, isF_ordT, hd, hd2, asIns_ord, q1, q2]
      by_cases e : p = q
      · subst e
        simp [prodT]
      · have e2 : ¬ (p : Int) = q := by omega
        simp [e, e2, prodT, nfm, hn0]
        by_cases hc : p / n = q / n ∨ A (p / n) (q / n) = true
        · simp [hc]
        · simp [hc]
    · intro vi vj
      simp
      exact hK _ ⟨vi, vj, rfl⟩
  · rintro ρ ⟨v5, v6, rfl⟩
    simp [ioOf]
    rw [← Int.natCast_mul, mk_prs (.inl rfl) tr ir hN]
    simp
/-! ### one order in the place of each point -/
theorem moved_eq {n c : Nat} {T : Tb} (hn : n ≤ 60) : F_u_moved [ordT n T, .a (.int (c : Int))] = .rt (.n .lst true (((prs n T).map fun p => (p.1 + c, p.2 + c)).map prD)) none := by
  apply wf_eq
  unfold F_u_moved
  rw [wf_fn]
  unfold B_u_moved
  have hpl : (prs n T).length ≤ 3600 := Nat.le_trans prs_lenn (Nat.mul_le_mul hn hn)
  simp [isF_ordT, asIns_ord, pairs_eq' hn]
  refine ⟨nfp, by omega, ?_⟩
  rw [lcL_run (fun _ => true) (fun d => prD (fstD d + c, sndD d + c))]
  · rw [wo_ok]
    simp [ioOf]
    rw [List.filter_eq_self.mpr (fun _ _ => rfl), List.map_map]
    rfl
  · intro d hd
    obtain ⟨p, hp, rfl⟩ := List.mem_map.mp hd
    obtain ⟨x, y⟩ := p
    simp [prD, natD]
    exact ⟨rfl, rfl⟩
def stt (s : Nat → Nat) : Nat → Nat
  | 0 => 0
  | x + 1 => stt s x + s x
theorem stt_mono {s : Nat → Nat} {x : Nat} : ∀ {y : Nat}, x ≤ y → stt s x ≤ stt s y
  | 0, h => by rw [Nat.le_zero.mp h]; exact Nat.le_refl _
  | y + 1, h => by
    rcases Nat.lt_or_ge x (y + 1) with q | q
    · exact Nat.le_trans (stt_mono (show x ≤ y by omega)) (Nat.le_add_right _ _)
    · rw [show x = y + 1 by omega]; exact Nat.le_refl _
theorem stt_lt {s : Nat → Nat} {m x i : Nat} (hx : x < m) (hi : i < s x) : stt s x + i < stt s m := by
  have := stt_mono (s := s) (show x + 1 ≤ m from hx)
  have e : stt s (x + 1) = stt s x + s x := rfl
  omega
theorem stt_inj {s : Nat → Nat} {x y i k : Nat} (hi : i < s x) (hk : k < s y) (h : stt s x + i = stt s y + k) : x = y ∧ i = k := by
  rcases Nat.lt_trichotomy x y with q | q | q
  · have := stt_lt q hi
    omega
  · subst q
    exact ⟨rfl, by omega⟩
  · have := stt_lt q hk
    omega
theorem stt_surj {s : Nat → Nat} {p : Nat} : ∀ {m : Nat}, p < stt s m → ∃ x i, x < m ∧ i < s x ∧ p = stt s x + i
  | 0, h => absurd h (Nat.not_lt_zero _)
  | m + 1, h => by
    rcases Nat.lt_or_ge p (stt s m) with q | q
    · obtain ⟨x, i, h1, h2, h3⟩ := stt_surj q
      exact ⟨x, i, by omega, h2, h3⟩
    · have e : stt s (m + 1) = stt s m + s m := rfl
      exact ⟨m, p - stt s m, by omega, by omega, by omega⟩
open Classical in
noncomputable def lexT (m : Nat) (s : Nat → Nat) (A : Tb) (B : Nat → Tb) : Tb := fun p q => decide (∃ x i y k, x < m ∧ i < s x ∧ y < m ∧ k < s y ∧ p = stt s x + i ∧ q = stt s y + k ∧ (A x y = true ∨ (x = y ∧ B x i k = true)))
theorem lexT_iff {m : Nat} {s : Nat → Nat} {A : Tb} {B : Nat → Tb} {p q : Nat} : lexT m s A B p q = true ↔ ∃ x i y k, x < m ∧ i < s x ∧ y < m ∧ k < s y ∧ p = stt s x + i ∧ q = stt s y + k ∧ (A x y = true ∨ (x = y ∧ B x i k = true)) := by
  unfold lexT
  exact @decide_eq_true_iff _ (Classical.propDecidable _)
theorem lexT_val {m : Nat} {s : Nat → Nat} {A : Tb} {B : Nat → Tb} {x i y k : Nat} (hx : x < m) (hi : i < s x) (hy : y < m) (hk : k < s y) : lexT m s A B (stt s x + i) (stt s y + k) = (A x y || (decide (x = y) && B x i k)) := by
  rw [Bool.eq_iff_iff, lexT_iff, Bool.or_eq_true, Bool.and_eq_true, decide_eq_true_iff]
  constructor
  · rintro ⟨x', i', y', k', hx', hi', hy', hk', e1, e2, h⟩
    obtain ⟨rfl, rfl⟩ := stt_inj hi hi' e1
    obtain ⟨rfl, rfl⟩ := stt_inj hk hk' e2
    exact h
  · intro h
    exact ⟨x, i, y, k, hx, hi, hy, hk, rfl, rfl, h⟩
theorem lexT_tr {m : Nat} {s : Nat → Nat} {A : Tb} {B : Nat → Tb} (tA : Tr m A) (tB : ∀ x, x < m → Tr (s x) (B x)) : Tr (stt s m) (lexT m s A B) := fun p q r hp hq hr h1 h2 => by
  obtain ⟨x, i, hx, hi, rfl⟩ := stt_surj hp
  obtain ⟨y, k, hy, hk, rfl⟩ := stt_surj hq
  obtain ⟨z, l, hz, hl, rfl⟩ := stt_surj hr
  rw [lexT_val hx hi hy hk] at h1
  rw [lexT_val hy hk hz hl] at h2
  rw [lexT_val hx hi hz hl]
  simp at h1 h2 ⊢
  rcases h1 with h1 | ⟨rfl, h1⟩
  · rcases h2 with h2 | ⟨rfl, h2⟩
    · exact .inl (tA x y z hx hy hz h1 h2)
    · exact .inl h1
  · rcases h2 with h2 | ⟨rfl, h2⟩
    · exact .inl h2
    · exact .inr ⟨rfl, tB x hx i k l hi hk hl h1 h2⟩
theorem lexT_irr {m : Nat} {s : Nat → Nat} {A : Tb} {B : Nat → Tb} (iA : Irr m A) (iB : ∀ x, x < m → Irr (s x) (B x)) : Irr (stt s m) (lexT m s A B) := fun p hp => by
  obtain ⟨x, i, hx, hi, rfl⟩ := stt_surj hp
  rw [lexT_val hx hi hx hi, iA x hx, iB x hx i hi]
  simp
theorem flat_len {α β : Type} {f : α → List β} {c : Nat} : ∀ {l : List α}, (∀ x ∈ l, (f x).length ≤ c) → (l.flatMap f).length ≤ l.length * c
  | [], _ => by simp
  | x :: l, h => by
    rw [List.flatMap_cons, List.length_append, List.length_cons, Nat.succ_mul]
    have h1 := h x (by simp)
    have h2 := flat_len (l := l) fun y hy => h y (List.mem_cons_of_mem _ hy)
    omega
def shf (c : Nat) (l : List (Nat × Nat)) : List (Nat × Nat) := l.map fun p => (p.1 + c, p.2 + c)
def inP (s : Nat → Nat) (B : Nat → Tb) (x : Nat) : List (Nat × Nat) := shf (stt s x) (prs (s x) (B x))
def blk (s : Nat → Nat) (p : Nat × Nat) : List (Nat × Nat) := (List.range (s p.1)).flatMap fun i => (List.range (s p.2)).map fun k => (stt s p.1 + i, stt s p.2 + k)
theorem mem_blk {s : Nat → Nat} {p e : Nat × Nat} : e ∈ blk s p ↔ ∃ i k, i < s p.1 ∧ k < s p.2 ∧ e = (stt s p.1 + i, stt s p.2 + k) := by
  unfold blk
  simp only [List.mem_flatMap, List.mem_range, List.mem_map]
  constructor
  · rintro ⟨i, hi, k, hk, e⟩
    exact ⟨i, k, hi, hk, e.symm⟩
  · rintro ⟨i, k, hi, hk, e⟩
    exact ⟨i, hi, k, hk, e.symm⟩
theorem mem_inP {s : Nat → Nat} {B : Nat → Tb} {x : Nat} {e : Nat × Nat} : e ∈ inP s B x ↔ ∃ i k, i < s x ∧ k < s x ∧ B x i k = true ∧ e = (stt s x + i, stt s x + k) := by
  unfold inP shf
  rw [List.mem_map]
  constructor
  · rintro ⟨⟨i, k⟩, hp, rfl⟩
    obtain ⟨h1, h2, h3⟩ := mem_prs.mp hp
    exact ⟨i, k, h1, h2, h3, by simp [Nat.add_comm]⟩
  · rintro ⟨i, k, h1, h2, h3, rfl⟩
    exact ⟨(i, k), mem_prs.mpr ⟨h1, h2, h3⟩, by simp [Nat.add_comm]⟩
def lexP (m : Nat) (s : Nat → Nat) (A : Tb) (B : Nat → Tb) : List (Nat × Nat) := (List.range m).flatMap (inP s B) ++ (prs m A).flatMap (blk s)
theorem mem_lexP {m : Nat} {s : Nat → Nat} {A : Tb} {B : Nat → Tb} {p q : Nat} : (p, q) ∈ lexP m s A B ↔ lexT m s A B p q = true := by
  unfold lexP
  rw [lexT_iff, List.mem_append, List.mem_flatMap, List.mem_flatMap]
  constructor
  · rintro (⟨x, hx, h⟩ | ⟨⟨x, y⟩, hp, h⟩)
    · obtain ⟨i, k, hi, hk, hB, e⟩ := mem_inP.mp h
      cases e
      exact ⟨x, i, x, k, List.mem_range.mp hx, hi, List.mem_range.mp hx, hk, rfl, rfl, .inr ⟨rfl, hB⟩⟩
    · obtain ⟨i, k, hi, hk, e⟩ := mem_blk.mp h
      obtain ⟨h1, h2, h3⟩ := mem_prs.mp hp
      cases e
      exact ⟨x, i, y, k, h1, hi, h2, hk, rfl, rfl, .inl h3⟩
  · rintro ⟨x, i, y, k, hx, hi, hy, hk, rfl, rfl, h | ⟨rfl, h⟩⟩
    · exact .inr ⟨(x, y), mem_prs.mpr ⟨hx, hy, h⟩, mem_blk.mpr ⟨i, k, hi, hk, rfl⟩⟩
    · exact .inl ⟨x, List.mem_range.mpr hx, mem_inP.mpr ⟨i, k, hi, hk, h, rfl⟩⟩
theorem lexP_bd {m : Nat} {s : Nat → Nat} {A : Tb} {B : Nat → Tb} : Bd (stt s m) (lexP m s A B) := fun e he => by
  obtain ⟨p, q⟩ := e
  obtain ⟨x, i, y, k, hx, hi, hy, hk, rfl, rfl, _⟩ := lexT_iff.mp (mem_lexP.mp he)
  exact ⟨stt_lt hx hi, stt_lt hy hk⟩
theorem inP_len {s : Nat → Nat} {B : Nat → Tb} {x : Nat} (h : s x ≤ 10) : (inP s B x).length ≤ 100 := by
  unfold inP shf
  rw [List.length_map]
  exact Nat.le_trans prs_lenn (Nat.mul_le_mul h h)
theorem blk_len {s : Nat → Nat} {p : Nat × Nat} (h1 : s p.1 ≤ 10) (h2 : s p.2 ≤ 10) : (blk s p).length ≤ 100 := by
  unfold blk
  have := flat_len (l := List.range (s p.1)) (f := fun i => (List.range (s p.2)).map fun k => (stt s p.1 + i, stt s p.2 + k)) (c := s p.2) (fun x _ => by simp)
  rw [List.length_range] at this
  exact Nat.le_trans this (Nat.mul_le_mul h1 h2)
theorem lexsum_eq {kd : Kd} (hk : kd = .lst ∨ kd = .tup) {m : Nat} {s : Nat → Nat} {A : Tb} {B : Nat → Tb} (hm : m ≤ 10) (hN : stt s m ≤ 10) (tA : Tr m A) (iA : Irr m A) (tB : ∀ x, x < m → Tr (s x) (B x)) (iB : ∀ x, x < m → Irr (s x) (B x)) : F_lexicographic_sum [ordT m A, .n kd false (vec m fun x => ordT (s x) (B x))] = .rt (bldO (stt s m) (lexT m s A B)) none := by
  apply wf_eq
  unfold F_lexicographic_sum
  rw [wf_fn]
  unfold B_lexicographic_sum
  have hs : ∀ x, x < m → s x ≤ 10 := fun x hx => by
    have := stt_mono (s := s) (show x + 1 ≤ m from hx)
    have e : stt s (x + 1) = stt s x + s x := rfl
    omega
  have hst : ∀ x, x ≤ m → stt s x ≤ 10 := fun x hx => Nat.le_trans (stt_mono hx) hN
  have hfl : isFL (vec m fun x => ordT (s x) (B x)) = true := isFL_vec fun _ _ => isF_ordT
  have e1 : ∀ P : D → Prop, SO (gIsi2 "list" "tuple" (.n kd false (vec m fun x => ordT (s x) (B x)))) P = P (.a (.bl true)) := fun P => by
    rcases hk with rfl | rfl <;> simp [gIsi2, tyN, isiT]
  have e2 : ∀ P : List D → Prop, SO (itemsOf (.n kd false (vec m fun x => ordT (s x) (B x)))) P = P (vec m fun x => ordT (s x) (B x)) := fun P => by
    rcases hk with rfl | rfl <;> simp <;> omega
  have e3 : ∀ P : D → Prop, SO (gLen (.n kd false (vec m fun x => ordT (s x) (B x)))) P = P (.a (.int (m : Int))) := fun P => by
    rcases hk with rfl | rfl <;> simp
  have e4 : ∀ (x : Nat) (P : D → Prop), x < m → SO (gIx (.n kd false (vec m fun x => ordT (s x) (B x))) (.a (.int (x : Int)))) P = P (ordT (s x) (B x)) := fun x P hx => by
    rcases hk with rfl | rfl
    · exact so_ixLF hx isF_ordT
    · exact so_ixTF hx isF_ordT
  have hlen : ∀ (k : Nat) (S : Tb) (P : D → Prop), k ≤ 10 → SO (gLenO "Order" F_OrderU_lenU (ordT k S)) P = P (.a (.int (k : Int))) := fun k S P hk => o_len_ord (by omega)
  generalize hod : D.n kd false (vec m fun x => ordT (s x) (B x)) = od at *
  have hof : isF od = true := by rw [← hod]; simp [hfl]
  refine wp_step fun K hK => ?_
  simp [hof, e1, e3, isF_ordT, hlen, hm]
  apply hK
  clear hK K
  refine wp_step fun K hK => ?_
  simp
  apply hK
  clear hK K
  refine wp_step fun K hK => ?_
  simp
  apply hK
  clear hK K
  refine wp_cutK (fun ρ => ∃ v4 : Option D, ρ = [some (ordT m A), some od, some (.n .lst false (vec m fun x => .a (.int (stt s x : Nat)))), some (.a (.int (stt s m : Nat))), v4, none, none, none, none, none]) (fun K hK => ?_) ?_
  · simp [hof, e2]
    refine wp_forK (fun x ρ => ∃ v4 : Option D, ρ = [some (ordT m A), some od, some (.n .lst true (vec x fun x => .a (.int (stt s x : Nat)))), some (.a (.int (stt s x : Nat))), v4, none, none, none, none, none]) ⟨none, rfl⟩ ?_ ?_
    · intro x d ρ hd h J hJ
      obtain ⟨v4, rfl⟩ := h
      obtain ⟨hx, rfl⟩ := vec_get' hd
      simp [isF_ordT, hlen, hs x hx]
      refine ⟨by omega, ?_⟩
      refine hJ _ ⟨some (ordT (s x) (B x)), ?_⟩
      rw [vec_succ]
      simp [stt]
    · rintro ρ ⟨v4, rfl⟩
      rw [vec_len]
      have : frzL (vec m fun x => D.a (.int (stt s x : Nat))) = vec m fun x => .a (.int (stt s x : Nat)) := frzL_rows fun _ _ => rfl
      simp [this]
      exact hK _ ⟨v4, rfl⟩
  · rintro ρ ⟨v4, rfl⟩
    have hfs : isFL (vec m fun x => D.a (.int (stt s x : Nat))) = true := isFL_vec fun _ _ => rfl
    refine wp_step fun K hK => ?_
    simp
    apply hK
    clear hK K
    have l1 : ∀ x, x ≤ m → ((List.range x).flatMap (inP s B)).length ≤ 1000 := fun x hx => by
      have := flat_len (l := List.range x) (f := inP s B) (c := 100) fun y hy => inP_len (hs y (by have := List.mem_range.mp hy; omega))
      rw [List.length_range] at this
      exact Nat.le_trans this (by omega)
    refine wp_cutK (fun ρ => ∃ v6 : Option D, ρ = [some (ordT m A), some od, some (.n .lst false (vec m fun x => .a (.int (stt s x : Nat)))), some (.a (.int (stt s m : Nat))), v4, some (.n .lst true (((List.range m).flatMap (inP s B)).map prD)), v6, none, none, none]) (fun K hK => ?_) ?_
    · simp [isF_ordT, hlen, hm, intL_vec]
      refine ⟨by omega, ?_⟩
      refine wp_forK (fun x ρ => ∃ v6 : Option D, ρ = [some (ordT m A), some od, some (.n .lst false (vec m fun x => .a (.int (stt s x : Nat)))), some (.a (.int (stt s m : Nat))), v4, some (.n .lst true (((List.range x).flatMap (inP s B)).map prD)), v6, none, none, none]) ⟨none, rfl⟩ ?_ ?_
      · intro x d ρ hd h J hJ
        obtain ⟨v6, rfl⟩ := h
        obtain ⟨hx, rfl⟩ := vec_get' hd
        have hmv := moved_eq (n := s x) (c := stt s x) (T := B x) (by have := hs x hx; omega)
        have hl1 := l1 x (by omega)
        have hl2 := inP_len (s := s) (B := B) (hs x hx)
        have hix : ∀ P : D → Prop, SO (gIx (.n .lst false (vec m fun x => D.a (.int (stt s x : Nat)))) (.a (.int (x : Int)))) P = P (.a (.int (stt s x : Nat))) := fun P => so_ixLF hx rfl
        have hJ' := hJ [some (ordT m A), some od, some (.n .lst false (vec m fun x => .a (.int (stt s x : Nat)))), some (.a (.int (stt s m : Nat))), v4, some (.n .lst true (((List.range (x + 1)).flatMap (inP s B)).map prD)), some (.a (.int (x : Int))), none, none, none] ⟨_, rfl⟩
        rw [List.range_succ, List.flatMap_append, List.map_append] at hJ'
        unfold inP shf at hl1 hl2 hJ' ⊢
        generalize (List.range x).flatMap (fun x => List.map (fun p => (p.fst + stt s x, p.snd + stt s x)) (prs (s x) (B x))) = L1 at *
        simp only [List.length_map] at hl2
        have hfz : ∀ (l : List (Nat × Nat)) (g : Nat × Nat → Nat × Nat), isFL (List.map (prD ∘ g) l) = true := fun l g => isFL_map fun _ => rfl
        simp [hof, e4 x _ hx, hfs, hix, frz_ordT, hmv, hfz]
        refine ⟨by omega, ?_⟩
        simpa using hJ'
      · rintro ρ ⟨v6, rfl⟩
        rw [vec_len]
        exact hK _ ⟨v6, rfl⟩
    · rintro ρ ⟨v6, rfl⟩
      have hl1 := l1 m (Nat.le_refl _)
      have hpA : (prs m A).length ≤ 100 := Nat.le_trans prs_lenn (Nat.mul_le_mul hm hm)
      have l2 : ∀ j, (((prs m A).take j).flatMap (blk s)).length ≤ 10000 := fun j => by
        have := flat_len (l := (prs m A).take j) (f := blk s) (c := 100) fun p hp => by
          have hb := prs_bd p (List.mem_of_mem_take hp)
          exact blk_len (hs _ hb.1) (hs _ hb.2)
        have h2 : ((prs m A).take j).length ≤ 100 := Nat.le_trans (by simp; omega) hpA
        exact Nat.le_trans this (by omega)
      have hlex : lexP m s A B = (List.range m).flatMap (inP s B) ++ (prs m A).flatMap (blk s) := rfl
      generalize (List.range m).flatMap (inP s B) = L1 at *
      refine wp_cutK (fun ρ => ∃ v6 v7 v8 v9 : Option D, ρ = [some (ordT m A), some od, some (.n .lst false (vec m fun x => .a (.int (stt s x : Nat)))), some (.a (.int (stt s m : Nat))), v4, some (.n .lst false ((lexP m s A B).map prD)), v6, v7, v8, v9]) (fun K hK => ?_) ?_
      · rw [hlex] at hK
        clear hlex
        simp [isF_ordT, asIns_ord, pairs_eq' (show m ≤ 60 by omega), nfp]
        refine ⟨by omega, ?_⟩
        refine wp_forK (fun j ρ => ∃ v6 v7 v8 v9 : Option D, ρ = [some (ordT m A), some od, some (.n .lst false (vec m fun x => .a (.int (stt s x : Nat)))), some (.a (.int (stt s m : Nat))), v4, some (.n .lst true ((L1 ++ ((prs m A).take j).flatMap (blk s)).map prD)), v6, v7, v8, v9]) ⟨v6, none, none, none, by simp⟩ ?_ ?_
        · intro j d ρ hd h J hJ
          obtain ⟨v6, v7, v8, v9, rfl⟩ := h
          rw [List.getElem?_map] at hd
          cases hp : (prs m A)[j]? with
          | none => rw [hp] at hd; cases hd
          | some p =>
            rw [hp] at hd
            cases hd
            obtain ⟨x, y⟩ := p
            have hb := prs_bd _ (List.mem_of_getElem? hp)
            have hx : x < m := hb.1
            have hy : y < m := hb.2
            have hsx := hs x hx
            have hsy := hs y hy
            have hl2 := l2 j
            have hJ' : ∀ v8 v9 : Option D, J [some (ordT m A), some od, some (.n .lst false (vec m fun x => .a (.int (stt s x : Nat)))), some (.a (.int (stt s m : Nat))), v4, some (.n .lst true ((L1 ++ ((prs m A).take j).flatMap (blk s) ++ blk s (x, y)).map prD)), some (.a (.int (x : Int))), some (.a (.int (y : Int))), v8, v9] := fun v8 v9 => by
              refine hJ _ ⟨some (.a (.int (x : Int))), some (.a (.int (y : Int))), v8, v9, ?_⟩
              rw [List.take_succ, hp, List.flatMap_append]
              simp
            clear hJ
            have hix : ∀ (x : Nat) (P : D → Prop), x < m → SO (gIx (.n .lst false (vec m fun x => D.a (.int (stt s x : Nat)))) (.a (.int (x : Int)))) P = P (.a (.int (stt s x : Nat))) := fun x P hx => so_ixLF hx rfl
            generalize hL2 : L1 ++ ((prs m A).take j).flatMap (blk s) = L2 at *
            have hL2l : L2.length ≤ 11000 := by rw [← hL2, List.length_append]; omega
            generalize hvs : D.n .lst false (vec m fun x => .a (.int (stt s x : Nat))) = dst at *
            have hdf : isF dst = true := by rw [← hvs]; simp [hfs]
            have key : ∀ g : Nat → List (Nat × Nat), (∀ i, (g i).length ≤ 10) → ∀ i, i ≤ 10 → ((List.range i).flatMap g).length ≤ 100 := fun g hg i hi => by
              have := flat_len (l := List.range i) (f := g) (c := 10) fun x _ => hg x
              rw [List.length_range] at this
              omega
            have hg10 := key (fun i => (List.range (s y)).map fun k => (stt s x + i, stt s y + k)) (fun i => by simp; omega)
            simp [DC.prD, natD, hof, e4 x _ hx, hlen, hsx, intL_vec]
            refine ⟨by omega, ?_⟩
            refine wp_forK (fun i ρ => ∃ v8 v9 : Option D, ρ = [some (ordT m A), some od, some dst, some (.a (.int (stt s m : Nat))), v4, some (.n .lst true ((L2 ++ (List.range i).flatMap fun i => (List.range (s y)).map fun k => (stt s x + i, stt s y + k)).map DC.prD)), some (.a (.int (x : Int))), some (.a (.int (y : Int))), v8, v9]) ⟨v8, v9, by simp⟩ ?_ ?_
            · intro i d ρ hd h J2 hJ2
              obtain ⟨v8, v9, rfl⟩ := h
              obtain ⟨hi, rfl⟩ := vec_get' hd
              have hgi := hg10 i (by omega)
              simp [hof, e4 y _ hy, hlen, hsy, intL_vec]
              refine ⟨by omega, ?_⟩
              refine wp_forK (fun k ρ => ∃ v9 : Option D, ρ = [some (ordT m A), some od, some dst, some (.a (.int (stt s m : Nat))), v4, some (.n .lst true ((L2 ++ ((List.range i).flatMap fun i => (List.range (s y)).map fun k => (stt s x + i, stt s y + k)) ++ (List.range k).map fun k => (stt s x + i, stt s y + k)).map DC.prD)), some (.a (.int (x : Int))), some (.a (.int (y : Int))), some (.a (.int (i : Int))), v9]) ⟨v9, by simp⟩ ?_ ?_
              · intro k d ρ hd h J3 hJ3
                obtain ⟨v9, rfl⟩ := h
                obtain ⟨hk2, rfl⟩ := vec_get' hd
                have hJ3' := hJ3 _ ⟨some (.a (.int (k : Int))), rfl⟩
                have ee : L2 ++ ((List.range i).flatMap fun i => (List.range (s y)).map fun k => (stt s x + i, stt s y + k)) ++ (List.range (k + 1)).map (fun k => (stt s x + i, stt s y + k)) = (L2 ++ ((List.range i).flatMap fun i => (List.range (s y)).map fun k => (stt s x + i, stt s y + k)) ++ (List.range k).map (fun k => (stt s x + i, stt s y + k))) ++ [(stt s x + i, stt s y + k)] := by
                  rw [List.range_succ, List.map_append, ← List.append_assoc]
                  rfl
                rw [ee] at hJ3'
                clear ee
                generalize hQ : L2 ++ ((List.range i).flatMap fun i => (List.range (s y)).map fun k => (stt s x + i, stt s y + k)) ++ (List.range k).map (fun k => (stt s x + i, stt s y + k)) = Q at *
                have hQl : Q.length ≤ 12000 := by rw [← hQ]; simp only [List.length_append, List.length_map, List.length_range]; omega
                simp [hdf, hix x _ hx, hix y _ hy]
                refine ⟨by omega, ?_⟩
                simpa [DC.prD, natD] using hJ3'
              · rintro ρ ⟨v9, rfl⟩
                rw [vec_len]
                refine hJ2 _ ⟨some (.a (.int (i : Int))), v9, ?_⟩
                rw [List.range_succ (n := i), List.flatMap_append, ← List.append_assoc]
                simp
            · rintro ρ ⟨v8, v9, rfl⟩
              rw [vec_len]
              exact hJ' v8 v9
        · rintro ρ ⟨v6, v7, v8, v9, rfl⟩
          have : (prs m A).take ((prs m A).map DC.prD).length = prs m A := List.take_of_length_le (by simp)
          rw [this]
          have hfz := frzL_pr (l := L1 ++ (prs m A).flatMap (blk s))
          simp only [List.map_append] at hfz hK ⊢
          simp [hfz]
          exact hK _ ⟨v6, v7, v8, v9, rfl⟩
      · rintro ρ ⟨v6, v7, v8, v9, rfl⟩
        have hll : (lexP m s A B).length ≤ 100000 := by
          rw [hlex, List.length_append]
          have h1 := l2 (prs m A).length
          rw [List.take_length] at h1
          omega
        have hmk := mk_of (k := .lst) (T := lexT m s A B) (.inl rfl) lexP_bd (fun a b ha hb => clo_of lexP_bd (fun p q _ _ => mem_lexP) (lexT_tr tA tB) ha hb) (lexT_irr iA iB) hN hll
        simp [ioOf, limited_eq hN, hmk]
theorem stt_const {n : Nat} : ∀ m, stt (fun _ => n) m = m * n
  | 0 => by simp [stt]
  | m + 1 => by
    have := stt_const (n := n) m
    show stt (fun _ => n) m + n = _
    rw [this, Nat.succ_mul]
theorem lexicographic_eq {m n : Nat} {A B : Tb} (hm : m ≤ 10) (hN : m * n ≤ 10) (tA : Tr m A) (iA : Irr m A) (tB : Tr n B) (iB : Irr n B) : F_lexicographic [ordT m A, ordT n B] = .rt (bldO (m * n) (lexT m (fun _ => n) A fun _ => B)) none := by
  have h := lexsum_eq (kd := .lst) (s := fun _ => n) (B := fun _ => B) (.inl rfl) hm (by rw [stt_const]; exact hN) tA iA (fun _ _ => tB) (fun _ _ => iB)
  rw [stt_const] at h
  apply wf_eq
  unfold F_lexicographic
  rw [wf_fn]
  unfold B_lexicographic
  have hlen : ∀ (P : D → Prop), SO (gLenO "Order" F_OrderU_lenU (ordT m A)) P = P (.a (.int (m : Int))) := fun P => o_len_ord (by omega)
  have hfz : frzL (vec m fun _ => ordT n B) = vec m fun _ => ordT n B := frzL_isFL _ (isFL_vec fun _ _ => isF_ordT)
  have hr := fun P => rep1 (n := m) (d := ordT n B) (P := P) isF_ordT (by omega)
  simp [isF_ordT, hlen, hr, frz_ordT, hfz, h, ioOf]
/-! ### tables filled cell by cell -/
def partT (P : Tb) (x y : Nat) : Tb := fun a b => if a < x ∨ (a = x ∧ b < y) then P a b else false
theorem partT_0 {P : Tb} : partT P 0 0 = fun _ _ => false := by
  funext a b
  unfold partT
  simp
theorem partT_succ {P : Tb} {x y : Nat} : (fun a b => if a = x ∧ b = y then P x y else partT P x y a b) = partT P x (y + 1) := by
  funext a b
  unfold partT
  by_cases h : a = x ∧ b = y
  · obtain ⟨rfl, rfl⟩ := h
    simp
  · rw [if_neg h]
    congr 1
    simp only [eq_iff_iff]
    constructor
    · rintro (q | q)
      · exact .inl q
      · exact .inr ⟨q.1, by omega⟩
    · rintro (q | q)
      · exact .inl q
      · exact .inr ⟨q.1, by omega⟩
theorem partT_row {P : Tb} {N x : Nat} : vec N (brow true N (partT P x N)) = vec N (brow true N (partT P (x + 1) 0)) := brow_congr fun a b ha hb => by
  unfold partT
  congr 1
  simp only [eq_iff_iff]
  omega
theorem partT_end {P : Tb} {N : Nat} : vec N (brow true N (partT P N 0)) = vec N (brow true N P) := brow_congr fun a b ha hb => by
  unfold partT
  rw [if_pos (.inl ha)]
theorem partT_set {P : Tb} {N x y : Nat} {v : Bool} (hv : v = P x y) (hx : x < N) : (vec N (brow true N (partT P x y))).set x (.n .lst true ((vec N fun b => .a (.bl (partT P x y x b))).set y (.a (.bl v)))) = vec N (brow true N (partT P x (y + 1))) := by
  rw [brow_set hx, ← partT_succ, hv]
end DC
namespace DL
open PySem L2
/-- a value known -/
theorem wo_val {α : Type} {E : Exn → DL.Env → Prop} {P : α → DL.Env → Prop} {f : DL.Env → Out α} {ρ : DL.Env} (x : α) (h1 : WO NoE (fun y ρ' => y = x ∧ ρ' = ρ) (f ρ)) (h2 : P x ρ) : WO E P (f ρ) := by
  rw [out_eq h1]
  exact h2
end DL
namespace DC
open PySem L2 DL
/-! ### rows and tables as values -/
def rowD (ps : List (Nat × Nat)) : D := .n .lst false (ps.map DC.prD)
@[simp] theorem isF_rowD {ps : List (Nat × Nat)} : isF (rowD ps) = true := by unfold rowD; simp
@[simp] theorem frz_rowD {ps : List (Nat × Nat)} : frz (rowD ps) = rowD ps := frz_isF _ isF_rowD
def tabD (n : Nat) (T : Tb) : D := .n .lst false (vec n (brow false n T))
@[simp] theorem isF_tabD {n : Nat} {T : Tb} : isF (tabD n T) = true := by unfold tabD; simp [isFL_brow]
@[simp] theorem frz_tabD {n : Nat} {T : Tb} : frz (tabD n T) = tabD n T := frz_isF _ isF_tabD
@[simp] theorem isF_brow' {n a : Nat} {T : Tb} : isF (brow false n T a) = true := by
  unfold brow; rw [isF_n, isFL_vec fun _ _ => rfl]; rfl
theorem g_row' {n u : Nat} {T : Tb} {P : D → Prop} (hu : u < n) : SO (gIx (tabD n T) (.a (.int (u : Int)))) P = P (brow false n T u) := g_row hu
theorem tabD_eq {n : Nat} {T : Tb} : D.n .lst false (vec n (brow false n T)) = tabD n T := rfl
theorem law_closed_tab {n : Nat} {ps : List (Nat × Nat)} (h : ∀ p ∈ ps, p.1 < n ∧ p.2 < n) (hn : n ≤ 60) (hl : ps.length ≤ 100000) : F_law_closed [.a (.int (n : Int)), .n .lst false (ps.map prD)] = .rt (tabD n (clo n ps)) none := law_closed_eqL h hn hl
theorem same_tab {n : Nat} {T S : Tb} (h : ∀ a b, a < n → b < n → T a b = S a b) (hn : n ≤ 60) : F_law_same [ordT n T, tabD n S] = .rt (.a (.bl true)) none := same_true h hn
/-- [[False for y in range(n)] for x in range(n)] -/
theorem w_false {E : Exn → DL.Env → Prop} {P : D → DL.Env → Prop} {ρ : DL.Env} {a v1 v2 n : Nat} (ha : ρ[a]? = some (some (.a (.int (n : Int))))) (hn : n ≤ 1000) (h1 : ∀ d, ρ[v1]? = some (some d) → isF d = true) (h2 : ∀ d, ρ[v2]? = some (some d) → isF d = true) (l1 : v1 < ρ.length) (l2 : v2 < ρ.length) (n1 : v1 ≠ a) (n12 : v1 ≠ v2) :
    WO E P (dLc [v1] (dRng1 (dVar a)) (tg1 v1) dYes (dLc [v2] (dRng1 (dVar a)) (tg1 v2) dYes (dC (.bl false))) ρ) = P (.lst true (vec n (brow true n fun _ _ => false))) ρ := by
  have hr : ∀ ρ : DL.Env, ρ[a]? = some (some (.a (.int (n : Int)))) → dRng1 (dVar a) ρ = .ok (vec n fun i => .a (.int (i : Int))) ρ := fun ρ h => by
    apply out_eq
    simp [h, intL_vec]
    omega
  rw [w_lcA (fun d => .lst true (vec n fun _ => .a (.bl false))) h1 l1 (hr ρ ha) (by rw [vec_len]; omega)]
  · rw [vec_map]
    rfl
  · intro d hd
    have ha' : (ρ.set v1 (some d))[a]? = some (some (.a (.int (n : Int)))) := by rw [get_set_ne n1, ha]
    apply out_eq
    rw [w_lcA (f := dC (.bl false)) (fun d => .a (.bl false)) (fun d' h => by rw [get_set_ne n12] at h; exact h2 d' h) (by simpa using l2) (hr _ ha') (by rw [vec_len]; omega) (fun d hd => rfl)]
    rw [vec_map]
    exact ⟨rfl, rfl⟩
end DC
namespace DC
open PySem L2 DL
/-! ### the places (x, i) in a row -/
def plc (s : Nat → Nat) (m : Nat) : List (Nat × Nat) := (List.range m).flatMap fun x => (List.range (s x)).map fun i => (x, i)
theorem plc_succ {s : Nat → Nat} {m : Nat} : plc s (m + 1) = plc s m ++ (List.range (s m)).map fun i => (m, i) := by
  unfold plc
  rw [List.range_succ, List.flatMap_append]
  simp
theorem plc_len {s : Nat → Nat} : ∀ {m : Nat}, (plc s m).length = stt s m
  | 0 => rfl
  | m + 1 => by
    rw [plc_succ, List.length_append, plc_len (m := m)]
    simp [stt]
theorem plc_get {s : Nat → Nat} {x i : Nat} (hi : i < s x) : ∀ {m : Nat}, x < m → (plc s m)[stt s x + i]? = some (x, i)
  | 0, h => absurd h (Nat.not_lt_zero _)
  | m + 1, h => by
    rw [plc_succ]
    rcases Nat.lt_or_ge x m with q | q
    · rw [List.getElem?_append_left (by rw [plc_len]; exact stt_lt q hi)]
      exact plc_get hi q
    · have : x = m := by omega
      subst this
      rw [List.getElem?_append_right (by rw [plc_len]; omega), plc_len, Nat.add_sub_cancel_left]
      simp [hi]
theorem plc_get' {s : Nat → Nat} {m p : Nat} {e : Nat × Nat} (h : (plc s m)[p]? = some e) : e.1 < m ∧ e.2 < s e.1 ∧ p = stt s e.1 + e.2 := by
  have hp : p < stt s m := by
    have := (List.getElem?_eq_some_iff.mp h).1
    rwa [plc_len] at this
  obtain ⟨x, i, hx, hi, rfl⟩ := stt_surj hp
  rw [plc_get hi hx] at h
  cases h
  exact ⟨hx, hi, rfl⟩
theorem plc_congr {s t : Nat → Nat} : ∀ {m : Nat}, (∀ j, j < m → s j = t j) → plc s m = plc t m
  | 0, _ => rfl
  | m + 1, h => by
    rw [plc_succ, plc_succ, plc_congr (m := m) fun j hj => h j (by omega), h m (by omega)]
theorem stt_le {s : Nat → Nat} {c : Nat} : ∀ {m : Nat}, (∀ j, j < m → s j ≤ c) → stt s m ≤ m * c
  | 0, _ => by simp [stt]
  | m + 1, h => by
    have h1 := stt_le (m := m) fun j hj => h j (by omega)
    have h2 := h m (by omega)
    rw [Nat.succ_mul]
    show stt s m + s m ≤ _
    omega
theorem extf_lt {α : Type} {f : Nat → α} {i j : Nat} {x : α} (h : j < i) : extf f i x j = f j := by
  unfold extf; rw [if_pos h]
theorem extf_self {α : Type} {f : Nat → α} {i : Nat} {x : α} : extf f i x i = x := by
  unfold extf; rw [if_neg (Nat.lt_irrefl i)]
theorem plc_ext {α : Type} {f : Nat → α} {g : α → Nat} {i : Nat} {x : α} : plc (fun j => g (f j)) i ++ (List.range (g x)).map (fun k => (i, k)) = plc (fun j => g (extf f i x j)) (i + 1) := by
  rw [plc_succ, extf_self]
  congr 1
  exact plc_congr fun j hj => by rw [extf_lt hj]
theorem lexsum_badlen {m : Nat} {A : Tb} {xs : List D} (hm : m ≤ 60) (hf : isFL xs = true) (h : xs.length ≠ m) : ∃ io, F_lexicographic_sum [ordT m A, .n .lst false xs] = .ex ⟨"Malformed", []⟩ io := by
  apply wf_exx
  unfold F_lexicographic_sum
  rw [wf_fn]
  unfold B_lexicographic_sum
  have hlen : ∀ (P : D → Prop), SO (gLenO "Order" F_OrderU_lenU (ordT m A)) P = P (.a (.int (m : Int))) := fun P => o_len_ord (by omega)
  have hne : ¬ (xs.length : Int) = m := by omega
  refine wp_step fun K hK => ?_
  simp [hf, isF_ordT, gIsi2, tyN, isiT, hlen, hne]
theorem lexsum_badnon {m : Nat} {A : Tb} : ∃ io, F_lexicographic_sum [ordT m A, .a .non] = .ex ⟨"Malformed", []⟩ io := by
  apply wf_exx
  unfold F_lexicographic_sum
  rw [wf_fn]
  unfold B_lexicographic_sum
  refine wp_step fun K hK => ?_
  simp [isF_ordT, gIsi2, tyN, isiT]
end DC
namespace DL
open PySem L2
/-- while, by a measure -/
theorem wp_while {Q : Ps} {t : DL.Env → Out Bool} {b : DL.Env → Fl} (I : Nat → DL.Env → Prop) (hs : ∀ n ρ, I n ρ → WO Q.ex (fun c ρ1 => if c = true then WP ⟨fun ρ2 => ∃ k, k < n ∧ I k ρ2, Q.rt, Q.nx, fun ρ2 => ∃ k, k < n ∧ I k ρ2, Q.ex⟩ (b ρ1) else Q.nx ρ1) (t ρ)) : ∀ (m n : Nat) (ρ : DL.Env), n < m → I n ρ → WP Q (whL t b m ρ)
  | 0, n, ρ, hm, _ => absurd hm (Nat.not_lt_zero _)
  | m + 1, n, ρ, hm, h => by
    have h1 := hs n ρ h
    have nxt : ∀ ρ2, (∃ k, k < n ∧ I k ρ2) → WP Q (whL t b m ρ2) := fun ρ2 ⟨k, hk, h2⟩ => wp_while I hs m k ρ2 (by omega) h2
    unfold whL
    cases ht : t ρ with
    | st => rw [ht] at h1; exact h1.elim
    | ex e ρ1 => rw [ht] at h1; exact h1
    | ok c ρ1 =>
      rw [ht, wo_ok] at h1
      cases c with
      | false => rw [if_neg (by decide)] at h1; exact h1
      | true =>
        rw [if_pos rfl] at h1
        dsimp only
        cases hb : b ρ1 with
        | nx ρ2 => rw [hb] at h1; exact nxt ρ2 h1
        | ct ρ2 => rw [hb] at h1; exact nxt ρ2 h1
        | bk ρ2 => rw [hb] at h1; exact h1
        | rt d ρ2 => rw [hb] at h1; exact h1
        | ex e ρ2 => rw [hb] at h1; exact h1
        | st => rw [hb] at h1; exact h1
end DL
namespace DC
open PySem L2 DL
def chkB (r : FR) (b : Bool) : Bool := match r with
  | .rt (.a (.bl c)) none => c == b
  | _ => false
theorem chkB_eq {r : FR} {b : Bool} (h : chkB r b = true) : r = .rt (.a (.bl b)) none := by
  unfold chkB at h
  split at h
  · rename_i c
    have : c = b := by simpa using h
    rw [this]
  · cases h
theorem inside_all : ((List.range 32).all fun a => (List.range 32).all fun b => chkB (F_law_is_inside [.a (.int (a : Int)), .a (.int (b : Int))]) (decide (a &&& b = a))) = true := by decide +kernel
theorem inside_eq {a b : Nat} (ha : a < 32) (hb : b < 32) : F_law_is_inside [.a (.int (a : Int)), .a (.int (b : Int))] = .rt (.a (.bl (decide (a &&& b = a)))) none :=
  chkB_eq (List.all_eq_true.mp (List.all_eq_true.mp inside_all a (List.mem_range.mpr ha)) b (List.mem_range.mpr hb))
def incT (f : Nat → Nat) : Tb := fun x y => !decide (f x = f y) && decide (f x &&& f y = f x)
theorem incT_iff {f : Nat → Nat} {x y : Nat} : incT f x y = true ↔ f x ≠ f y ∧ f x &&& f y = f x := by
  unfold incT
  simp
theorem incT_tr {n : Nat} {f : Nat → Nat} : Tr n (incT f) := fun a b c _ _ _ h1 h2 => by
  rw [incT_iff] at h1 h2 ⊢
  have e : f a &&& f c = f a := by rw [← h1.2, Nat.and_assoc, h2.2]
  refine ⟨fun q => h1.1 ?_, e⟩
  rw [q] at h1
  have h3 := h1.2
  rw [Nat.and_comm, h2.2] at h3
  rw [q, ← h3]
theorem incT_irr {n : Nat} {f : Nat → Nat} : Irr n (incT f) := fun x _ => by unfold incT; simp
theorem by_incl_eq {kd : Kd} (hk : kd = .lst ∨ kd = .tup) {n : Nat} {f : Nat → Nat} (hn : n ≤ 10) : F_by_inclusion [.n kd false (vec n fun i => natD (f i))] = .rt (bldO n (incT f)) none := by
  apply wf_eq
  unfold F_by_inclusion
  rw [wf_fn]
  unfold B_by_inclusion
  have hfl : isFL (vec n fun i => natD (f i)) = true := isFL_vec fun _ _ => rfl
  have e1 : ∀ P : D → Prop, SO (gIsi2 "list" "tuple" (.n kd false (vec n fun i => natD (f i)))) P = P (.a (.bl true)) := fun P => by
    rcases hk with rfl | rfl <;> simp [gIsi2, tyN, isiT]
  have e2 : ∀ P : List D → Prop, SO (itemsOf (.n kd false (vec n fun i => natD (f i)))) P = P (vec n fun i => natD (f i)) := fun P => by
    rcases hk with rfl | rfl <;> simp <;> omega
  have e3 : ∀ P : D → Prop, SO (gLen (.n kd false (vec n fun i => natD (f i)))) P = P (.a (.int (n : Int))) := fun P => by
    rcases hk with rfl | rfl <;> simp
  have e4 : ∀ (x : Nat) (P : D → Prop), x < n → SO (gIx (.n kd false (vec n fun i => natD (f i))) (.a (.int (x : Int)))) P = P (natD (f x)) := fun x P hx => by
    rcases hk with rfl | rfl
    · exact so_ixLF hx rfl
    · exact so_ixTF hx rfl
  generalize hod : D.n kd false (vec n fun i => natD (f i)) = od at *
  have hof : isF od = true := by rw [← hod]; simp [hfl]
  refine wp_step fun K hK => ?_
  simp [hof, e1]
  apply hK
  clear hK K
  refine wp_cutK (fun ρ => ∃ v1 : Option D, ρ = [some od, v1, none, none, none, none]) (fun K hK => ?_) ?_
  · simp [hof, e2]
    refine wp_forK (fun i ρ => ∃ v1 : Option D, ρ = [some od, v1, none, none, none, none]) ⟨none, rfl⟩ ?_ ?_
    · intro i d ρ hd h J hJ
      obtain ⟨v1, rfl⟩ := h
      obtain ⟨hi, rfl⟩ := vec_get' hd
      have h0 : ¬ ((f i : Nat) : Int) < 0 := by omega
      simp [natD, isint_eq, h0]
      exact hJ _ ⟨_, rfl⟩
    · intro ρ h
      exact hK _ h
  · rintro ρ ⟨v1, rfl⟩
    refine wp_step fun K hK => ?_
    simp [hof, e3, limited_eq hn]
    apply hK
    clear hK K
    refine wp_step fun K hK => ?_
    simp
    apply hK
    clear hK K
    refine wp_cutK (fun ρ => ∃ v4 v5 : Option D, ρ = [some od, v1, some (.a (.int (n : Int))), some (.n .lst false ((prs n (incT f)).map prD)), v4, v5]) (fun K hK => ?_) ?_
    · rw [wx, p_Frz]
      refine wp_prs (n := n) (T := incT f) (by decide) (by decide) (by decide) (by decide) (by decide) (by decide) (by simp) (by simp) (by simp) rfl (by omega) rfl ?_ ?_
      · intro x y hx hy ps
        apply out_eq
        simp [natD, hof, e4 x _ hx, e4 y _ hy, is_part_eq]
        by_cases e : f x = f y
        · simp [e, incT]
        · have e2 : ¬ ((f x : Nat) : Int) = f y := by omega
          simp [e, e2, incT]
      · intro vi vj
        simp
        exact hK _ ⟨vi, vj, rfl⟩
    · rintro ρ ⟨v4, v5, rfl⟩
      simp [ioOf, mk_prs (.inl rfl) (incT_tr (n := n)) incT_irr hn]
end DC
namespace DC
open PySem L2 DL
/-! ### divisors -/
theorem wp_prsU {Q : Ps} {ρ : DL.Env} {a i j l n : Nat} {t : DL.Env → Out Bool} {T : Tb} (hij : i ≠ j) (hil : i ≠ l) (hjl : j ≠ l) (hai : a ≠ i) (haj : a ≠ j) (hal : a ≠ l) (hi : i < ρ.length) (hj : j < ρ.length) (hl : l < ρ.length) (ha : ρ[a]? = some (some (.a (.int (n : Int))))) (hn : n ≤ 500) (h0 : ρ[l]? = some (some (.lst true [])))
    (hT : ∀ x y, T x y = true → x < y)
    (ht : ∀ x y, x < n → y < n → x < y → ∀ ps : List (Nat × Nat), t (((ρ.set l (some (.lst true (ps.map DC.prD)))).set i (some (natD x))).set j (some (natD y))) = .ok (T x y) (((ρ.set l (some (.lst true (ps.map DC.prD)))).set i (some (natD x))).set j (some (natD y))))
    (hq : ∀ vi vj, Q.nx (((ρ.set l (some (.lst true ((prs n T).map DC.prD)))).set i vi).set j vj)) :
    WP Q (dFor (dRng1 (dVar a)) (tg1 i) (dFor (dRng2 (dOp2 gAdd (dVar i) (dC (.int 1))) (dVar a)) (tg1 j) (dIf t (dHas l (dBind (dTup (dACons (dVar i) (dACons (dVar j) dANil))) (stApp l))) dNext)) ρ) := by
  have hρl : ρ = ρ.set l (some (.lst true (([] : List (Nat × Nat)).map DC.prD))) := by
    apply List.ext_getElem?
    intro k
    by_cases q : l = k
    · subst q; rw [get_set_self hl, h0]; rfl
    · rw [get_set_ne q]
  have hset : ∀ (ρ : DL.Env) (k : Nat) (o : Option D), ρ[k]? = some o → ρ.set k o = ρ := fun ρ k o h => by
    apply List.ext_getElem?
    intro m
    by_cases q : k = m
    · subst q; rw [get_set_self (List.getElem?_eq_some_iff.mp h).1, h]
    · rw [get_set_ne q]
  obtain ⟨oi, hoi⟩ : ∃ o, ρ[i]? = some o := ⟨_, List.getElem?_eq_getElem hi⟩
  obtain ⟨oj, hoj⟩ : ∃ o, ρ[j]? = some o := ⟨_, List.getElem?_eq_getElem hj⟩
  rw [p_For, w_Rng1, w_Var, ha]
  simp only [so_some, isF_a, true_and, asI_int, Int.toNat_natCast]
  refine ⟨by omega, ?_⟩
  refine wp_for (fun x ρ' => ∃ vi vj, ρ' = ((ρ.set l (some (.lst true (((List.range x).flatMap (rowp n T)).map DC.prD)))).set i vi).set j vj) ?_ ?_ ?_
  · refine ⟨oi, oj, ?_⟩
    simp only [List.range_zero, List.flatMap_nil]
    rw [← hρl, hset ρ i _ hoi, hset ρ j _ hoj]
  · rintro x d ρ' hd ⟨vi, vj, rfl⟩
    obtain ⟨rfl, hx⟩ := intL_get hd
    rw [show (0 : Int) + (x : Int) = x by omega, s_tg1]
    refine ⟨by simpa using hi, ?_⟩
    rw [set_comm' (Ne.symm hij), set_set]
    rw [p_For, w_Rng2, w_Op2, w_Var, get_set_ne hij.symm, get_set_self (show i < (ρ.set l _).length by simpa using hi)]
    simp only [so_some, isF_a, true_and, w_C, o_add, asI_int]
    rw [w_Var, get_set_ne (Ne.symm haj), get_set_ne (Ne.symm hai), get_set_ne (Ne.symm hal), ha]
    simp only [so_some, isF_a, true_and, asI_int]
    rw [show ((n : Int) - ((x : Int) + 1)).toNat = n - (x + 1) by omega]
    refine ⟨by omega, ?_⟩
    refine wp_for (fun y ρ' => ∃ vj, ρ' = ((ρ.set l (some (.lst true (((List.range x).flatMap (rowp n T) ++ ((List.range (x + 1 + y)).filter (T x)).map fun y => (x, y)).map DC.prD)))).set i (some (natD x))).set j vj) ?_ ?_ ?_
    · refine ⟨vj, ?_⟩
      have : (List.range (x + 1 + 0)).filter (T x) = [] := List.filter_eq_nil_iff.mpr fun y hy h => by
        have := hT x y h
        have := List.mem_range.mp hy
        omega
      simp only [this, List.map_nil, List.append_nil]
      rfl
    · rintro y d ρ' hd ⟨vj, rfl⟩
      obtain ⟨rfl, hy⟩ := intL_get hd
      rw [show (x : Int) + 1 + (y : Int) = ((x + 1 + y : Nat) : Int) by omega, s_tg1]
      refine ⟨by simpa using hj, ?_⟩
      rw [set_set]
      have hty := ht x (x + 1 + y) hx (by omega) (by omega) ((List.range x).flatMap (rowp n T) ++ ((List.range (x + 1 + y)).filter (T x)).map fun y => (x, y))
      rw [p_If]
      show WO _ _ (t (((ρ.set l _).set i (some (natD x))).set j (some (natD (x + 1 + y)))))
      rw [hty, wo_ok]
      have hlen : ((List.range x).flatMap (rowp n T) ++ ((List.range (x + 1 + y)).filter (T x)).map fun y => (x, y)).length < 1000000 := by
        have h1 := prs_len (n := n) (T := T) x
        have h2 : ((List.range (x + 1 + y)).filter (T x)).length ≤ x + 1 + y := Nat.le_trans (List.length_filter_le _ _) (by simp)
        rw [List.length_append, List.length_map]
        have h3 : x * n ≤ 500 * 500 := Nat.mul_le_mul (by omega) hn
        omega
      cases hTT : T x (x + 1 + y) with
      | true =>
        rw [if_pos rfl, p_Has, get_set_ne hjl, get_set_ne hil, get_set_self hl]
        simp only [so_some, true_and]
        simp only [p_Bind, w_Tup, w_ACons, w_ANil, w_Var, get_set_ne hij.symm, get_set_self (show i < (ρ.set l _).length by simpa using hi), get_set_self (show j < ((ρ.set l _).set i _).length by simpa using hj), wo_ok, so_some, isF_natD, true_and]
        simp
        rw [get_set_ne hjl, get_set_ne hil, get_set_self hl]
        simp
        refine ⟨by simpa using hlen, ?_⟩
        refine ⟨some (natD (x + 1 + y)), ?_⟩
        rw [set_comm' hjl, set_comm' hil, set_set]
        congr 4
        rw [show x + 1 + (y + 1) = (x + 1 + y) + 1 from rfl, List.range_succ, List.filter_append, List.map_append]
        simp [hTT, DC.prD]
      | false =>
        rw [if_neg (by decide), p_Next]
        refine ⟨some (natD (x + 1 + y)), ?_⟩
        congr 8
        rw [show x + 1 + (y + 1) = (x + 1 + y) + 1 from rfl, List.range_succ, List.filter_append]
        simp [hTT]
    · rintro ρ' ⟨vj, rfl⟩
      rw [intL_len, show x + 1 + (n - (x + 1)) = n by omega]
      refine ⟨some (natD x), vj, ?_⟩
      rw [prs_take]
      rfl
  · rintro ρ' ⟨vi, vj, rfl⟩
    rw [intL_len]
    exact hq vi vj
def up1 (c : Nat) : List Nat := (List.range c).map (· + 1)
theorem up1_len {c : Nat} : (up1 c).length = c := by simp [up1]
theorem up1_mem {c d : Nat} (h : d ∈ up1 c) : 1 ≤ d ∧ d ≤ c := by
  obtain ⟨z, hz, rfl⟩ := List.mem_map.mp h
  have := List.mem_range.mp hz
  omega
def dv (k : Nat) : List Nat := (up1 k).filter fun d => decide (k % d = 0)
def lowN (c k : Nat) : List Nat := (up1 c).filter fun d => decide (k % d = 0) && decide (d * d ≤ k)
def highL (k : Nat) (l : List Nat) : List Nat := (l.filter fun d => decide (d * d < k)).map fun d => k / d
theorem low_eq {k : Nat} (hk : k ≤ 400) : lowN 1000 k = lowN 20 k := by
  unfold lowN up1
  rw [List.filter_map, List.filter_map]
  congr 1
  refine filter_range (fun z hz => ?_) 1000 (by decide)
  have : 21 * 21 ≤ (z + 1) * (z + 1) := Nat.mul_le_mul (by omega) (by omega)
  have h2 : ¬ (z + 1) * (z + 1) ≤ k := by omega
  simp [h2]
theorem dv_all : ((List.range 400).all fun k => decide (sortI ((lowN 20 (k + 1) ++ highL (k + 1) (lowN 20 (k + 1))).map fun (d : Nat) => (d : Int)) = (dv (k + 1)).map fun (d : Nat) => (d : Int))) = true := by decide +kernel
theorem dv_sort {k : Nat} (h1 : 1 ≤ k) (h2 : k ≤ 400) : sortI ((lowN 1000 k ++ highL k (lowN 1000 k)).map fun (d : Nat) => (d : Int)) = (dv k).map fun (d : Nat) => (d : Int) := by
  rw [low_eq h2]
  have := List.all_eq_true.mp dv_all (k - 1) (List.mem_range.mpr (by omega))
  rw [show k - 1 + 1 = k by omega] at this
  exact of_decide_eq_true this
theorem intsOf_nat : ∀ l : List Nat, intsOf (l.map natD) = some (l.map fun (d : Nat) => (d : Int))
  | [] => rfl
  | x :: l => by
    rw [List.map_cons, List.map_cons]
    unfold natD
    unfold intsOf
    have := intsOf_nat l
    unfold natD at this
    rw [this]
    rfl
theorem sort_nat {o : Bool} {l : List Nat} {P : D → Prop} : SO (gSortI (.n .lst o (l.map natD))) P = P (.lst true ((sortI (l.map fun (d : Nat) => (d : Int))).map D.int)) := by
  unfold gSortI
  dsimp only
  rw [intsOf_nat]
  rfl
theorem dv_mem {k d : Nat} (h : d ∈ dv k) : 1 ≤ d ∧ d ≤ k ∧ k % d = 0 := by
  unfold dv at h
  rw [List.mem_filter] at h
  have := up1_mem h.1
  exact ⟨this.1, this.2, of_decide_eq_true h.2⟩
theorem dv_pair {k : Nat} : (dv k).Pairwise (· < ·) := by
  unfold dv up1
  apply List.Pairwise.filter
  rw [List.pairwise_map]
  exact List.pairwise_lt_range.imp fun h => by omega
def dg (k i : Nat) : Nat := (dv k).getD i 0
theorem dv_vec (k : Nat) : (dv k).map natD = vec (dv k).length fun i => natD (dg k i) := by
  apply List.ext_getElem?
  intro i
  by_cases h : i < (dv k).length
  · rw [vec_get h, List.getElem?_map, List.getElem?_eq_getElem h]
    unfold dg
    rw [List.getD_eq_getElem?_getD, List.getElem?_eq_getElem h]
    rfl
  · rw [List.getElem?_eq_none (by simp; omega), List.getElem?_eq_none (by rw [vec_len]; omega)]
theorem dg_get {k i : Nat} (h : i < (dv k).length) : dg k i = (dv k)[i] := by
  unfold dg
  rw [List.getD_eq_getElem?_getD, List.getElem?_eq_getElem h]
  rfl
theorem dg_pos {k i : Nat} (h : i < (dv k).length) : 1 ≤ dg k i := by
  rw [dg_get h]
  exact (dv_mem (List.getElem_mem h)).1
theorem dg_lt {k i j : Nat} (hi : i < (dv k).length) (hj : j < (dv k).length) : dg k i < dg k j ↔ i < j := by
  rw [dg_get hi, dg_get hj]
  have hp := List.pairwise_iff_getElem.mp (dv_pair (k := k))
  constructor
  · intro h
    rcases Nat.lt_trichotomy i j with q | q | q
    · exact q
    · subst q; omega
    · have := hp j i hj hi q
      omega
  · intro h
    exact hp i j hi hj h
def dvT (k : Nat) : Tb := fun x y => decide (x < y) && decide (dg k y % dg k x = 0)
theorem dvT_tr {n k : Nat} : Tr n (dvT k) := fun a b c _ _ _ h1 h2 => by
  unfold dvT at h1 h2 ⊢
  simp at h1 h2 ⊢
  exact ⟨by omega, Nat.mod_eq_zero_of_dvd (Nat.dvd_trans (Nat.dvd_of_mod_eq_zero h1.2) (Nat.dvd_of_mod_eq_zero h2.2))⟩
theorem dvT_irr {n k : Nat} : Irr n (dvT k) := fun x _ => by unfold dvT; simp
def lrg : Exn := ⟨"Refused", [("reason", .str "large")]⟩
def tbN (f : Nat → Bool) : D → Bool := fun d => f (natOf d)
theorem filter_natD {f : Nat → Bool} {l : List Nat} : ((l.map natD).filter (tbN f)).map (fun d => d) = (l.filter f).map natD := by
  rw [List.map_id', List.filter_map]
  rfl
theorem filter_natD' {f : Nat → Bool} {g : Nat → Nat} {l : List Nat} : ((l.map natD).filter (tbN f)).map (fun d => natD (g (natOf d))) = ((l.filter f).map g).map natD := by
  rw [List.filter_map, List.map_map, List.map_map]
  rfl
theorem intL_one (n : Nat) : intL 1 n = (up1 n).map natD := by
  unfold intL natD up1
  rw [List.map_map]
  apply List.map_congr_left
  intro a _
  simp
  omega
theorem limited_big {n : Nat} (hn : 10 < n) : ∃ io, F_u_limited [.a (.int (n : Int))] = .ex lrg io := by
  apply wf_exx
  unfold F_u_limited
  rw [wf_fn]
  unfold B_u_limited
  have : (10 : Int) < n := by omega
  simp [ioOf, this, okStr]
  exact ⟨by decide +kernel, rfl⟩
theorem divo_wf {k : Nat} (h1 : 1 ≤ k) (h2 : k ≤ 400) : WF (fun e _ => 10 < (dv k).length ∧ e = lrg) (fun d io => (dv k).length ≤ 10 ∧ d = bldO (dv k).length (dvT k) ∧ io = none) (F_divisor_order [.a (.int (k : Int))]) := by
  unfold F_divisor_order
  rw [wf_fn]
  unfold B_divisor_order
  have c1 : ¬ (k : Int) < 1 := by omega
  have c2 : ¬ (1000000 : Int) < k := by omega
  refine wp_step fun K hK => ?_
  simp [isint_eq, c1, c2]
  apply hK
  clear hK K
  have ll : ∀ c, (lowN c k).length ≤ c := fun c => by
    unfold lowN
    exact Nat.le_trans (List.length_filter_le _ _) (by rw [up1_len]; exact Nat.le_refl _)
  have hls : ∀ d ∈ up1 1000, 1 ≤ d ∧ d ≤ 1000 := fun d hd => up1_mem hd
  refine wp_cutK (fun ρ => ρ = [some (.a (.int (k : Int))), some (.n .lst false ((lowN 1000 k).map natD)), none, none, none, none, none, none]) (fun K hK => ?_) ?_
  · have lu := up1_len (c := 1000)
    simp [intL_one]
    refine ⟨by omega, ?_⟩
    rw [lcL_run (tbN fun d => decide (k % d = 0) && decide (d * d ≤ k)) (fun d => d)]
    · rw [wo_ok, filter_natD]
      simp
      exact hK _ rfl
    · intro d hd
      obtain ⟨x, hx, rfl⟩ := List.mem_map.mp hd
      have hb := hls x hx
      have hmo : mulOk (x : Int) (x : Int) = true := mulOk_of (bits_c (n := 10) (by simp; omega)) (bits_c (n := 10) (by simp; omega)) (by decide)
      have x0 : 0 < x := by omega
      simp [natD, tbN, natOf, hmo, x0]
      by_cases e : k % x = 0
      · have e' : (k : Int) % x = 0 := by omega
        simp [e, e']
        have : ((x : Int) * x ≤ k) ↔ x * x ≤ k := by
          rw [← Int.natCast_mul]
          omega
        exact decide_eq_decide.mpr this
      · have e' : ¬ (k : Int) % x = 0 := by omega
        simp [e, e']
  · rintro ρ rfl
    have l1 := ll 1000
    have hlm : ∀ d ∈ lowN 1000 k, 1 ≤ d ∧ d ≤ 1000 := fun d hd => hls d (List.mem_filter.mp hd).1
    have hso := dv_sort h1 h2
    generalize lowN 1000 k = L at *
    refine wp_cutK (fun ρ => ρ = [some (.a (.int (k : Int))), some (.n .lst false (L.map natD)), some (.n .lst false ((dv k).map natD)), none, none, none, none, none]) (fun K hK => ?_) ?_
    · simp
      refine ⟨by omega, ?_⟩
      rw [lcL_run (tbN fun d => decide (d * d < k)) (fun d => natD (k / natOf d))]
      · rw [wo_ok, filter_natD' (f := fun d => decide (d * d < k)) (g := fun d => k / d)]
        have hh : highL k L = (L.filter fun d => decide (d * d < k)).map fun d => k / d := rfl
        rw [← hh]
        have lh : (highL k L).length ≤ 1000 := by
          rw [hh, List.length_map]
          exact Nat.le_trans (List.length_filter_le _ _) l1
        rw [catL isFL_nat isFL_nat (by simp; omega), ← List.map_append, sort_nat, hso, List.map_map]
        have e : (D.int ∘ fun (d : Nat) => (d : Int)) = natD := rfl
        rw [e]
        simp
        exact hK _ rfl
      · intro d hd
        obtain ⟨x, hx, rfl⟩ := List.mem_map.mp hd
        have hb := hlm x hx
        have hmo : mulOk (x : Int) (x : Int) = true := mulOk_of (bits_c (n := 10) (by simp; omega)) (bits_c (n := 10) (by simp; omega)) (by decide)
        have hd1 : divOk (k : Int) (x : Int) = true := divOk_small (by omega) (by omega)
        have : ((x : Int) * x < k) ↔ x * x < k := by
          rw [← Int.natCast_mul]
          omega
        simp [natD, tbN, natOf, hmo, hd1]
        exact decide_eq_decide.mpr this
    · rintro ρ rfl
      rw [dv_vec k]
      have hvf : isFL (vec (dv k).length fun i => natD (dg k i)) = true := isFL_vec fun _ _ => rfl
      have hpos := fun {i} (hi : i < (dv k).length) => dg_pos hi
      by_cases hc : (dv k).length ≤ 10
      · generalize (dv k).length = N at *
        refine wp_step fun K hK => ?_
        simp [hvf, limited_eq hc]
        apply hK
        clear hK K
        refine wp_step fun K hK => ?_
        simp
        apply hK
        clear hK K
        refine wp_cutK (fun ρ => ∃ v5 v6 : Option D, ρ = [some (.a (.int (k : Int))), some (.n .lst false (L.map natD)), some (.n .lst false (vec N fun i => natD (dg k i))), some (.a (.int (N : Int))), some (.n .lst false ((prs N (dvT k)).map prD)), v5, v6, none]) (fun K hK => ?_) ?_
        · rw [wx, p_Frz]
          refine wp_prsU (n := N) (T := dvT k) (by decide) (by decide) (by decide) (by decide) (by decide) (by decide) (by simp) (by simp) (by simp) rfl (by omega) rfl (fun x y h => by unfold dvT at h; simp at h; exact h.1) ?_ ?_
          · intro x y hx hy hxy ps
            have hix : ∀ (x : Nat) (P : D → Prop), x < N → SO (gIx (.n .lst false (vec N fun i => natD (dg k i))) (.a (.int (x : Int)))) P = P (natD (dg k x)) := fun x P hx => so_ixLF hx rfl
            have hp := hpos hx
            have hp0 : 0 < dg k x := by omega
            apply out_eq
            simp [natD] at hix
            have em : ((dg k y : Nat) : Int) % ((dg k x : Nat) : Int) = 0 ↔ dg k y % dg k x = 0 := by
              rw [← Int.natCast_emod]
              omega
            simp [natD, hvf, hix x _ hx, hix y _ hy, hp0, dvT, hxy]
            exact ⟨hvf, em⟩
          · intro vi vj
            simp
            exact hK _ ⟨vi, vj, rfl⟩
        · rintro ρ ⟨v5, v6, rfl⟩
          simp [ioOf, mk_prs (.inl rfl) (dvT_tr (n := N) (k := k)) dvT_irr hc, hc]
      · obtain ⟨io, hl⟩ := limited_big (n := (dv k).length) (by omega)
        refine wp_step fun K hK => ?_
        simp [hvf, hl]
        omega
end DC
namespace DC
open PySem L2 DL
/-! ### numbers out of a script, orders drawn by them -/
theorem o_min2 {i j : Int} {P : D → Prop} : SO (gMin2 (.a (.int i)) (.a (.int j))) P = P (.a (.int (if j < i then j else i))) := rfl
theorem pow18 : gPow (.a (.int 10)) (.a (.int 18)) = some (.a (.int 1000000000000000000)) := by kernel_rfl
theorem scr_ix {ns : List Int} {k : Nat} {z : Int} {P : D → Prop} (h : ns[k]? = some z) : SO (gIx (.n .scr false (ns.map D.int)) (.a (.int (k : Int)))) P = P (.a (.int z)) := by
  unfold gIx gIxO
  dsimp only
  rw [atI_nat (x := D.int z) (by rw [List.getElem?_map, h]; rfl)]
  rfl
theorem len_scr {o : Bool} {xs : List D} {P : D → Prop} : SO (gLen (.n .scr o xs)) P = P (.a (.int xs.length)) := rfl
theorem numbers_wf (ns : List Int) (hl : ns.length ≤ 63) (hb : ∀ z ∈ ns, Builtin.Int.intBits z ≤ 1048576) : WF NoE (fun d io => Nms d ∧ io = none) (F_law_numbers [.scr (ns.map D.int)]) := by
  unfold F_law_numbers
  rw [wf_fn]
  unfold B_law_numbers
  have hf : isFL (ns.map D.int) = true := isFL_map fun _ => rfl
  have hS : D.scr (ns.map D.int) = .n .scr false (ns.map D.int) := rfl
  have hix := fun {k z} h P => @scr_ix ns k z P h
  rw [hS]
  generalize hd0 : D.n .scr false (ns.map D.int) = d0 at *
  have hf0 : isF d0 = true := by rw [← hd0]; simp [hf]
  have hlen : ∀ P : D → Prop, SO (gLen d0) P = P (.a (.int (ns.length : Nat))) := fun P => by rw [← hd0, len_scr]; simp
  refine wp_step fun K hK => ?_
  simp
  apply hK
  clear hK K
  have c63 : ¬ (63 : Int) < ns.length := by omega
  refine wp_cutK (fun ρ => ∃ (l : List Nat) (v2 v3 v4 v5 v6 : Option D), ρ = [some d0, some (.lst true (l.map natD)), v2, v3, v4, v5, v6] ∧ (∀ x ∈ l, x < 1009) ∧ l.length ≤ 10000) (fun K hK => ?_) ?_
  · simp [hf0, hlen, o_min2, c63]
    refine ⟨by omega, ?_⟩
    refine wp_forK (fun i ρ => ∃ (l : List Nat) (v2 v3 v4 v5 v6 : Option D), ρ = [some d0, some (.lst true (l.map natD)), v2, v3, v4, v5, v6] ∧ (∀ x ∈ l, x < 1009) ∧ l.length ≤ 60 * i) ⟨[], none, none, none, none, none, rfl, fun x hx => by simp at hx, by simp⟩ ?_ ?_
    · intro i d ρ hd h J hJ
      obtain ⟨l, v2, v3, v4, v5, v6, hρ, hx, hll⟩ := h
      subst hρ
      obtain ⟨rfl, hi⟩ := intL_get hd
      rw [show (0 : Int) + (i : Int) = i by omega]
      obtain ⟨z, hz⟩ : ∃ z, ns[i]? = some z := ⟨_, List.getElem?_eq_getElem hi⟩
      have bz := hb z (List.mem_of_getElem? hz)
      rw [s_tg1]
      refine ⟨by simp, ?_⟩
      refine wp_step fun K hK => ?_
      simp [hf0, hix hz]
      apply hK
      clear hK K
      have babs : 0 ≤ (if z < 0 then -z else z) := by split <;> omega
      generalize (if z < 0 then -z else z) = c at *
      simp [pow18]
      split
      · rename_i hc
        refine wp_forK (fun j ρ => ∃ (l : List Nat) (c : Int) (v4 : Option D), ρ = [some d0, some (.lst true (l.map natD)), some (.a (.int (i : Int))), some (.a (.int c)), v4, v5, v6] ∧ 0 ≤ c ∧ (∀ x ∈ l, x < 1009) ∧ l.length ≤ 60 * i + j) ⟨l, c, v4, rfl, babs, hx, by omega⟩ ?_ ?_
        · intro j d ρ hd h J2 hJ2
          obtain ⟨l, c, v4, hρ, h0, hx, hll⟩ := h
          subst hρ
          have hj : j < 60 := by
            have := (List.getElem?_eq_some_iff.mp hd).1
            rwa [intL_len] at this
          simp
          split
          · rename_i hc
            have hm0 := Int.emod_nonneg c (show (1009 : Int) ≠ 0 by decide)
            have hm1 := Int.emod_lt_of_pos c (show (0 : Int) < 1009 by decide)
            obtain ⟨w, hw⟩ := Int.eq_ofNat_of_zero_le hm0
            rw [hw]
            refine ⟨by omega, divOk_small (by decide) (by decide), ?_⟩
            refine hJ2 _ ⟨l ++ [w], c / 1009, some d, by simp [natD], Int.ediv_nonneg h0 (by decide), ?_, by simp; omega⟩
            intro x hx'
            rcases List.mem_append.mp hx' with q | q
            · exact hx x q
            · simp at q; subst q; omega
          · exact hJ2 _ ⟨l, c, some d, rfl, h0, hx, by omega⟩
        · intro ρ h
          obtain ⟨l, c, v4, hρ, h0, hx, hll⟩ := h
          subst hρ
          rw [intL_len] at hll
          exact hJ _ ⟨l, _, _, _, _, _, rfl, hx, by omega⟩
      · rename_i hc
        refine wp_forK (fun j ρ => ∃ (l : List Nat) (c : Int) (v5 v6 : Option D), ρ = [some d0, some (.lst true (l.map natD)), some (.a (.int (i : Int))), some (.a (.int c)), v4, v5, v6] ∧ 0 ≤ c ∧ c < 1000000000000000000 ∧ (∀ x ∈ l, x < 1009) ∧ l.length ≤ 60 * i + j) ⟨l, c, v5, v6, rfl, babs, by omega, hx, by omega⟩ ?_ ?_
        · intro j d ρ hd h J2 hJ2
          obtain ⟨l, c, v5, v6, hρ, h0, h1, hx, hll⟩ := h
          subst hρ
          obtain ⟨rfl, hj⟩ := intL_get hd
          rw [show (0 : Int) + (j : Int) = j by omega]
          have k1 : mulOk c 48271 = true := mulOk_of (bits_c (n := 60) (by omega)) (bits_c (n := 16) (by decide)) (by decide)
          have k2 : mulOk 69621 ((j : Int) + i) = true := mulOk_of (bits_c (n := 17) (by decide)) (bits_c (n := 10) (by omega)) (by decide)
          have m0 := Int.emod_nonneg (c * 48271 + 69621 * ((j : Int) + i) + 11) (show (2147483647 : Int) ≠ 0 by decide)
          have m1 := Int.emod_lt_of_pos (c * 48271 + 69621 * ((j : Int) + i) + 11) (show (0 : Int) < 2147483647 by decide)
          generalize hcc : (c * 48271 + 69621 * ((j : Int) + i) + 11) % 2147483647 = c2 at *
          have k3 : mulOk c2 16807 = true := mulOk_of (bits31 m0 m1) (bits_c (n := 15) (by decide)) (by decide)
          simp [k1, k2, hcc, k3]
          have hm0 := Int.emod_nonneg ((c2 * 16807 + c2 / 65536) % 2147483629) (show (1009 : Int) ≠ 0 by decide)
          have hm1 := Int.emod_lt_of_pos ((c2 * 16807 + c2 / 65536) % 2147483629) (show (0 : Int) < 1009 by decide)
          generalize hcm : (c2 * 16807 + c2 / 65536) % 2147483629 = cm at *
          obtain ⟨w, hw⟩ := Int.eq_ofNat_of_zero_le hm0
          rw [hw]
          refine ⟨divOk_small (by decide) (by decide), by omega, ?_⟩
          refine hJ2 _ ⟨l ++ [w], c2, some (.a (.int (j : Int))), some (.a (.int cm)), by simp [natD], m0, by omega, ?_, by simp; omega⟩
          intro x hx'
          rcases List.mem_append.mp hx' with q | q
          · exact hx x q
          · simp at q; subst q; omega
        · intro ρ h
          obtain ⟨l, c, v5, v6, hρ, h0, h1, hx, hll⟩ := h
          subst hρ
          rw [intL_len] at hll
          exact hJ _ ⟨l, _, _, _, _, _, rfl, hx, by omega⟩
    · intro ρ h
      obtain ⟨l, v2, v3, v4, v5, v6, hρ, hx, hll⟩ := h
      subst hρ
      rw [intL_len] at hll
      exact hK _ ⟨l, _, _, _, _, _, rfl, hx, by omega⟩
  · intro ρ h
    obtain ⟨l, v2, v3, v4, v5, v6, hρ, hx, hll⟩ := h
    subst hρ
    simp [ioOf]
    exact ⟨l, rfl, hx, hll⟩
theorem order_wf {st : D} (h : Nms st) (most : Nat) (hm : most ≤ 10) : WF NoE (fun d io => ∃ (n : Nat) (ps : List (Nat × Nat)), d = bldO n (clo n ps) ∧ n ≤ most ∧ Acyc n ps ∧ ∃ st', io = some st' ∧ Nms st') (F_law_order [st, .int most]) := by
  unfold F_law_order
  rw [wf_fn]
  unfold B_law_order
  refine wp_cutK (fun ρ => ∃ (st : D) (n : Nat), ρ = [some st, some (.a (.int (most : Int))), some (.a (.int (n : Int))), none, none, none, none, none, none, none, none] ∧ Nms st ∧ n ≤ most) (fun K hK => ?_) ?_
  · simp
    refine (next_wf h ((most : Int) + 1) (by omega)).mono ?_
    rintro d io ⟨v, rfl, v0, v1, st1, rfl, h1⟩
    obtain ⟨n, rfl⟩ := Int.eq_ofNat_of_zero_le v0
    simp
    exact hK _ ⟨st1, n, rfl, h1, by omega⟩
  · clear h st
    rintro ρ ⟨st, n, rfl, h, hn⟩
    refine wp_step fun K hK => ?_
    simp
    apply hK
    clear hK K
    refine wp_cutK (fun ρ => ρ = [some st, some (.a (.int (most : Int))), some (.a (.int (n : Int))), some (.n .lst true []), some (.n .lst true ((List.range n).map natD)), none, none, none, none, none, none]) (fun K hK => ?_) ?_
    · simp [intL_nat]
      refine ⟨by omega, ?_⟩
      rw [lcL_run (fun _ => true) (fun d => d)]
      · rw [wo_ok, List.filter_eq_self.mpr (fun _ _ => rfl), List.map_id']
        simp
        exact hK _ rfl
      · intro d hd
        obtain ⟨x, hx, rfl⟩ := List.mem_map.mp hd
        simp
    · rintro ρ rfl
      refine wp_cutK (fun ρ => ∃ (st : D) (xs : List Nat) (v5 : Option D), ρ = [some st, some (.a (.int (most : Int))), some (.a (.int (n : Int))), some (.n .lst false (xs.map natD)), some (.n .lst false []), v5, none, none, none, none, none] ∧ Nms st ∧ xs.Perm (List.range n)) (fun K hK => ?_) ?_
      · simp
        refine ⟨by omega, ?_⟩
        refine wp_forK (fun i ρ => ∃ (st : D) (le ou : List Nat) (v : Option D), ρ = [some st, some (.a (.int (most : Int))), some (.a (.int (n : Int))), some (.lst true (ou.map natD)), some (.lst true (le.map natD)), v, none, none, none, none, none] ∧ Nms st ∧ (le ++ ou).Perm (List.range n) ∧ ou.length = i) ⟨st, List.range n, [], none, rfl, h, by simp, rfl⟩ ?_ ?_
        · intro i d ρ hd h J hJ
          obtain ⟨st, le, ou, v, hρ, h1, h2, h3⟩ := h
          subst hρ
          have hi : i < n := by
            have := (List.getElem?_eq_some_iff.mp hd).1
            rw [intL_len] at this
            omega
          have hlen := h2.length_eq
          simp at hlen
          simp
          refine (next_wf h1 (le.length : Int) (by omega)).mono ?_
          rintro d io ⟨v, rfl, v0, v1, st', rfl, h4⟩
          have hj : v.toNat < le.length := by omega
          simp [seqIx_nat v0 v1, List.getElem?_eq_getElem hj]
          refine ⟨by omega, by omega, ?_⟩
          refine hJ _ ⟨st', le.eraseIdx v.toNat, ou ++ [le[v.toNat]], some d, ?_, h4, ?_, by simp [h3]⟩
          · simp [map_erase]
          · have p1 := perm_erase le v.toNat hj
            refine List.Perm.trans ?_ h2
            refine List.Perm.trans ?_ (p1.append_right ou)
            rw [← List.append_assoc]
            exact (List.perm_append_singleton _ _).trans (by simp)
        · intro ρ h
          obtain ⟨st, le, ou, v, hρ, h1, h2, h3⟩ := h
          subst hρ
          rw [intL_len] at h3
          have hlen := h2.length_eq
          simp at hlen
          have e : le = [] := List.eq_nil_of_length_eq_zero (by omega)
          subst e
          simp
          exact hK _ ⟨st, ou, v, rfl, h1, by simpa using h2⟩
      · rintro ρ ⟨st, xs, v5, rfl, h, hp⟩
        have nd : xs.Nodup := hp.symm.nodup_iff.mp List.nodup_range
        have hlx : xs.length = n := by simpa using hp.length_eq
        have hlt : ∀ x ∈ xs, x < n := fun x hx => by simpa using hp.mem_iff.mp hx
        refine wp_cutK (fun ρ => ∃ (st : D) (th : Int), 0 < th ∧ ρ = [some st, some (.a (.int (most : Int))), some (.a (.int (n : Int))), some (.n .lst false (xs.map natD)), some (.n .lst false []), v5, some (.a (.int th)), none, none, none, none] ∧ Nms st) (fun K hK => ?_) ?_
        · simp
          refine (next_wf h 3 (by decide)).mono ?_
          rintro d io ⟨v, rfl, v0, v1, st', rfl, h4⟩
          simp
          exact hK _ ⟨st', 2 + v, by omega, rfl, h4⟩
        · clear h st
          rintro ρ ⟨st, th, hth, rfl, h⟩
          refine wp_step fun K hK => ?_
          simp
          apply hK
          clear hK K
          refine wp_cutK (fun ρ => ∃ (st : D) (ps : List (Nat × Nat)) (v8 v9 : Option D), ρ = [some st, some (.a (.int (most : Int))), some (.a (.int (n : Int))), some (.n .lst false (xs.map natD)), some (.n .lst false []), v5, some (.a (.int th)), some (.n .lst false (ps.map prD)), v8, v9, none] ∧ Nms st ∧ Acyc n ps ∧ ps.length ≤ 10000) (fun K hK => ?_) ?_
          · simp
            refine ⟨by omega, ?_⟩
            refine wp_forK (fun i ρ => ∃ (st : D) (ps : List (Nat × Nat)) (v8 v9 : Option D), ρ = [some st, some (.a (.int (most : Int))), some (.a (.int (n : Int))), some (.n .lst false (xs.map natD)), some (.n .lst false []), v5, some (.a (.int th)), some (.lst true (ps.map prD)), v8, v9, none] ∧ Nms st ∧ PsOk n (fun v => xs.idxOf v) ps ∧ ps.length ≤ 100 * i) ⟨st, [], none, none, rfl, h, fun p hp => (nomatch hp), by simp⟩ ?_ ?_
            · intro i d ρ hd h J hJ
              obtain ⟨st, ps, v8, v9, hρ, h3, h4, h5⟩ := h
              subst hρ
              obtain ⟨rfl, hi⟩ := intL_get hd
              rw [show (0 : Int) + (i : Int) = i by omega]
              simp
              refine ⟨by omega, ?_⟩
              refine wp_forK (fun j ρ => ∃ (st : D) (ps : List (Nat × Nat)) (v9 : Option D), ρ = [some st, some (.a (.int (most : Int))), some (.a (.int (n : Int))), some (.n .lst false (xs.map natD)), some (.n .lst false []), v5, some (.a (.int th)), some (.lst true (ps.map prD)), some (.a (.int (i : Int))), v9, none] ∧ Nms st ∧ PsOk n (fun v => xs.idxOf v) ps ∧ ps.length ≤ 100 * i + j) ⟨st, ps, v9, rfl, h3, h4, by omega⟩ ?_ ?_
              · intro j d ρ hd h J2 hJ2
                obtain ⟨st, ps, v9, hρ, h3, h4, h5⟩ := h
                subst hρ
                obtain ⟨rfl, hj⟩ := intL_get hd
                rw [show (0 : Int) + (j : Int) = j by omega]
                have hi2 : i < xs.length := by omega
                have hj2 : j < xs.length := by omega
                have ixl : ∀ (x : Nat) (hx : x < xs.length) (P : D → Prop), SO (gIx (.n .lst false (xs.map natD)) (.a (.int (x : Int)))) P = P (natD xs[x]) := fun x hx P => by
                  unfold gIx
                  rw [ixL (d := natD xs[x]) (by rw [List.getElem?_map, List.getElem?_eq_getElem hx]; rfl)]
                  rfl
                simp
                refine (next_wf h3 th hth).mono ?_
                rintro d io ⟨v, rfl, v0, v1, st', rfl, h6⟩
                simp
                split
                · simp [ixl i hi2, ixl j hj2]
                  refine ⟨by omega, ?_⟩
                  refine hJ2 _ ⟨st', ps ++ [(xs[j], xs[i])], some (.a (.int (j : Int))), by simp [prD], h6, ?_, by simp; omega⟩
                  intro p hp
                  rcases List.mem_append.mp hp with hp | hp
                  · exact h4 p hp
                  · simp at hp
                    subst hp
                    refine ⟨hlt _ (List.getElem_mem _), hlt _ (List.getElem_mem _), ?_⟩
                    show List.idxOf xs[j] xs < List.idxOf xs[i] xs
                    rw [idxOf_get nd i hi2, idxOf_get nd j hj2]
                    omega
                · exact hJ2 _ ⟨st', ps, some (.a (.int (j : Int))), rfl, h6, h4, by omega⟩
              · intro ρ h
                obtain ⟨st, ps, v9, hρ, h3, h4, h5⟩ := h
                subst hρ
                rw [intL_len] at h5
                exact hJ _ ⟨st, ps, _, _, rfl, h3, h4, by omega⟩
            · intro ρ h
              obtain ⟨st, ps, v8, v9, hρ, h3, h4, h5⟩ := h
              subst hρ
              rw [intL_len] at h5
              simp
              exact hK _ ⟨st, ps, _, _, rfl, h3, ⟨_, h4⟩, by omega⟩
          · rintro ρ ⟨st, ps, v8, v9, rfl, h3, hac, hlen⟩
            have hmk := mk_of (k := .lst) (T := clo n ps) (.inl rfl) hac.bd (fun a b _ _ => rfl) (acyc_irr hac) (show n ≤ 10 by omega) (by omega)
            simp [ioOf, hmk]
            exact ⟨n, ps, ⟨rfl, rfl⟩, hn, hac, h3⟩
theorem table_eq {n : Nat} {T : Tb} (hn : n ≤ 60) : F_law_table [ordT n T] = .rt (tabD n T) none := by
  apply wf_eq
  unfold F_law_table
  rw [wf_fn]
  unfold B_law_table
  refine wp_step fun K hK => ?_
  simp [isF_ordT, asIns_ord, size_eq']
  refine ⟨nfs, ?_⟩
  apply hK
  clear hK K
  refine wp_step fun K hK => ?_
  rw [wx, p_Bind, w_false (n := n) rfl (by omega) (by simp) (by simp) (by simp) (by simp) (by decide) (by decide)]
  simp
  apply hK
  clear hK K
  have hpl : (prs n T).length ≤ 3600 := Nat.le_trans prs_lenn (Nat.mul_le_mul hn hn)
  refine wp_cutK (fun ρ => ∃ v3 v4 : Option D, ρ = [some (ordT n T), some (.a (.int (n : Int))), some (tabD n T), v3, v4]) (fun K hK => ?_) ?_
  · simp [isF_ordT, asIns_ord, pairs_eq' hn, nfp]
    refine ⟨by omega, ?_⟩
    refine wp_forK (fun i ρ => ∃ v3 v4 : Option D, ρ = [some (ordT n T), some (.a (.int (n : Int))), some (.n .lst true (vec n (brow true n (base ((prs n T).take i))))), v3, v4]) ⟨none, none, ?_⟩ ?_ ?_
    · have e : vec n (brow true n (base ((prs n T).take 0))) = vec n (brow true n fun _ _ => false) := brow_congr fun a b _ _ => by simp [base]
      rw [e]
    · intro i d ρ hd h J hJ
      obtain ⟨v3, v4, hρ⟩ := h
      subst hρ
      rw [List.getElem?_map] at hd
      cases hp : (prs n T)[i]? with
      | none => rw [hp] at hd; cases hd
      | some p =>
        rw [hp] at hd
        cases hd
        obtain ⟨x, y⟩ := p
        have hb := prs_bd _ (List.mem_of_getElem? hp)
        have hx : x < n := hb.1
        have hy : y < n := hb.2
        simp [DC.prD, natD, so_ixN hx, so_ixN hy, vec_get hx, brow]
        refine hJ _ ⟨some (.a (.int (x : Int))), some (.a (.int (y : Int))), ?_⟩
        congr 5
        refine Eq.trans (brow_set hx) (brow_congr fun a b ha hb => ?_)
        rw [base_take hp]
        by_cases e : a = x ∧ b = y
        · simp [e]
        · rw [if_neg e]
          have : decide ((a, b) = (x, y)) = false := decide_eq_false fun q => e (by simpa using q)
          rw [this, Bool.or_false]
    · intro ρ h
      obtain ⟨v3, v4, hρ⟩ := h
      subst hρ
      have et : (prs n T).take ((prs n T).map DC.prD).length = prs n T := List.take_of_length_le (by simp)
      rw [et]
      have eb : vec n (brow true n (base (prs n T))) = vec n (brow true n T) := brow_congr fun a b ha hb => by
        unfold base
        rw [Bool.eq_iff_iff, decide_eq_true_iff, mem_prs]
        exact ⟨fun h => h.2.2, fun h => ⟨ha, hb, h⟩⟩
      rw [eb]
      simp [frzL_brow, tabD_eq]
      exact hK _ ⟨v3, v4, rfl⟩
  · intro ρ h
    obtain ⟨v3, v4, hρ⟩ := h
    subst hρ
    simp [ioOf]
end DC
namespace DC
open PySem L2 DL
/-! ### points, chains, antichains and partings as tuples -/
def tupN (l : List Nat) : D := .n .tup false (l.map natD)
@[simp] theorem isF_tupN {l : List Nat} : isF (tupN l) = true := by unfold tupN; simp
@[simp] theorem frz_tupN {l : List Nat} : frz (tupN l) = tupN l := frz_isF _ isF_tupN
def ascN (n : Nat) : Nat → List Nat → Bool
  | _, [] => true
  | lo, x :: l => decide (lo ≤ x) && (decide (x < n) && ascN n (x + 1) l)
theorem ascN_cons {n lo x : Nat} {l : List Nat} : ascN n lo (x :: l) = (decide (lo ≤ x) && (decide (x < n) && ascN n (x + 1) l)) := rfl
theorem ascN_lt {n : Nat} : ∀ {l : List Nat} {lo : Nat}, ascN n lo l = true → ∀ x ∈ l, x < n
  | [], _, _, x, hx => by simp at hx
  | y :: l, lo, h, x, hx => by
    unfold ascN at h
    rw [Bool.and_eq_true, Bool.and_eq_true] at h
    rcases List.mem_cons.mp hx with rfl | hx
    · exact of_decide_eq_true h.2.1
    · exact ascN_lt h.2.2 x hx
theorem asIns_ord' {n : Nat} {T : Tb} {P : Str → List Str → List D → Prop} : asIns (ordT n T) P = P "Order" ["n", "above"] [.a (.int (n : Int)), .n .tup false (vec n (mrow n T))] := rfl
theorem points_eq {n : Nat} {T : Tb} {l : List Nat} (hl : l.length ≤ 1000) : F_is_points [ordT n T, tupN l] = .rt (.a (.bl (ascN n 0 l))) none := by
  apply wf_eq
  unfold F_is_points
  rw [wf_fn]
  unfold B_is_points
  have e1 : ∀ P : D → Prop, SO (gIsi "tuple" (tupN l)) P = P (.a (.bl true)) := fun P => by unfold tupN; rw [o_isi (t := "tuple") rfl]; simp [isiT]
  have e2 : ∀ P : List D → Prop, SO (itemsOf (tupN l)) P = P (l.map natD) := fun P => by unfold tupN; simp; omega
  refine wp_step fun K hK => ?_
  simp [e1]
  apply hK
  clear hK K
  refine wp_step fun K hK => ?_
  simp
  apply hK
  clear hK K
  refine wp_step fun K hK => ?_
  simp [e2]
  refine wp_forK (fun i ρ => ∃ (lo : Nat) (v3 : Option D), ρ = [some (ordT n T), some (tupN l), some (.a (.int ((lo : Int) - 1))), v3] ∧ ascN n lo (l.drop i) = ascN n 0 l) ⟨0, none, rfl, rfl⟩ ?_ ?_
  · intro i d ρ hd h J hJ
    obtain ⟨lo, v3, hρ, h1⟩ := h
    subst hρ
    obtain ⟨x, hx, rfl⟩ := natD_get hd
    have hi := (List.getElem?_eq_some_iff.mp hx).1
    have ed : l.drop i = x :: l.drop (i + 1) := by
      rw [List.drop_eq_getElem_cons hi]
      congr 1
      exact (List.getElem?_eq_some_iff.mp hx).2
    rw [ed, ascN_cons] at h1
    simp [natD, isint_eq, isF_ordT, asIns_ord, size_eq']
    by_cases c1 : lo ≤ x
    · have c2 : ¬ ((x : Int) ≤ lo - 1) := by omega
      simp [c2]
      refine ⟨nfs, ?_⟩
      by_cases c3 : x < n
      · have c4 : ¬ n ≤ x := by omega
        simp [c4]
        refine hJ _ ⟨x + 1, some (.a (.int (x : Int))), ?_, ?_⟩
        · rw [show ((x + 1 : Nat) : Int) - 1 = (x : Int) by omega]
        · rw [← h1]; simp [c1, c3]
      · have c4 : n ≤ x := by omega
        simp [c4]
        rw [← h1]
        simp [c3, ioOf]
    · have c2 : (x : Int) ≤ lo - 1 := by omega
      simp [c2]
      rw [← h1]
      simp [c1, ioOf]
  · intro ρ h
    obtain ⟨lo, v3, hρ, h1⟩ := h
    subst hρ
    apply hK
    simp [ioOf]
    rw [← h1]
    have : l.drop (l.map natD).length = [] := List.drop_eq_nil_of_le (by simp)
    rw [this]
    rfl
theorem setm_bit {l : List Nat} {y : Nat} : (setm l).testBit y = decide (y ∈ l) := by
  have key : ∀ (l : List Nat) (m : Nat), (l.foldl (fun m z => m ||| 2 ^ z) m).testBit y = (m.testBit y || decide (y ∈ l)) := by
    intro l
    induction l with
    | nil => intro m; simp
    | cons x l ih =>
      intro m
      rw [List.foldl_cons, ih, Nat.testBit_or, Nat.testBit_two_pow]
      by_cases e : x = y
      · subst e; simp
      · have e2 : ¬ y = x := fun q => e q.symm
        simp [e, e2]
  unfold setm
  rw [key]
  simp
theorem setm_lt {n : Nat} {l : List Nat} (h : ∀ x ∈ l, x < n) : setm l < 2 ^ n := by
  apply Nat.lt_pow_two_of_testBit
  intro i hi
  rw [setm_bit]
  apply decide_eq_false
  intro q
  have := h i q
  omega
theorem filter_setm {n : Nat} {l : List Nat} (h : ∀ x ∈ l, x < n) {p : Nat → Bool} : ((List.range n).filter (setm l).testBit).all p = l.all p := by
  rw [Bool.eq_iff_iff, List.all_eq_true, List.all_eq_true]
  constructor
  · intro q x hx
    exact q x (List.mem_filter.mpr ⟨List.mem_range.mpr (h x hx), by rw [setm_bit]; exact decide_eq_true hx⟩)
  · intro q x hx
    have := (List.mem_filter.mp hx).2
    rw [setm_bit] at this
    exact q x (of_decide_eq_true this)
def fits (T : Tb) (r : Bool) (l : List Nat) : Bool := l.all fun x => l.all fun y => decide (x = y) || ((T x y || T y x) == r)
theorem chn_set {n : Nat} {T : Tb} {l : List Nat} (h : ∀ x ∈ l, x < n) : chn n T (setm l) = fits T true l := by
  unfold chn fits
  rw [filter_setm h]
  congr 1
  funext x
  rw [filter_setm h]
  congr 1
  funext y
  cases T x y <;> cases T y x <;> simp
theorem anti_set {n : Nat} {T : Tb} {l : List Nat} (h : ∀ x ∈ l, x < n) (hi : Irr n T) : anti n T (setm l) = fits T false l := by
  unfold anti fits
  rw [filter_setm h, Bool.eq_iff_iff, List.all_eq_true, List.all_eq_true]
  have key : ∀ x, (mask n (T x) &&& setm l) = 0 ↔ ∀ y ∈ l, T x y = false := fun x => by
    constructor
    · intro e y hy
      have := congrArg (fun m => m.testBit y) e
      simp [Nat.testBit_and, mask_bit, setm_bit, hy, h y hy] at this
      exact this
    · intro e
      apply Nat.eq_of_testBit_eq
      intro y
      rw [Nat.testBit_and, mask_bit, setm_bit, Nat.zero_testBit]
      by_cases hy : y ∈ l
      · simp [hy, e y hy]
      · simp [hy]
  constructor
  · intro q x hx
    rw [List.all_eq_true]
    intro y hy
    have h1 := (key x).mp (of_decide_eq_true (q x hx)) y hy
    have h2 := (key y).mp (of_decide_eq_true (q y hy)) x hx
    simp [h1, h2]
  · intro q x hx
    apply decide_eq_true
    rw [key]
    intro y hy
    have := List.all_eq_true.mp (q x hx) y hy
    by_cases e : x = y
    · subst e; exact hi x (h x hx)
    · simp [e] at this
      exact this.1
theorem nfc : ¬ ("is_chain" : Str) = "n" ∧ ¬ ("is_chain" : Str) = "above" := by decide +kernel
theorem nfa : ¬ ("is_antichain" : Str) = "n" ∧ ¬ ("is_antichain" : Str) = "above" := by decide +kernel
theorem chainT_eq {n : Nat} {T : Tb} {l : List Nat} (hl : l.length ≤ 1000) (hn : n ≤ 60) : F_is_chain [ordT n T, tupN l] = .rt (.a (.bl (ascN n 0 l && fits T true l))) none := by
  apply wf_eq
  unfold F_is_chain
  rw [wf_fn]
  unfold B_is_chain
  simp [isF_ordT, frz_ordT, points_eq hl]
  cases ha : ascN n 0 l with
  | false => simp [ioOf]
  | true =>
    have hlt := ascN_lt ha
    have hso := set_of_eq (k := .tup) (l := l) (.inr rfl) (by omega) (fun x hx => by have := hlt x hx; omega)
    have hch : F_Order_is_chain [.n (.ins "Order" ["n", "above"]) false [.a (.int (n : Int)), .n .tup false (vec n (mrow n T))], .a (.int ((setm l : Nat) : Int))] = .rt (.a (.bl (chn n T (setm l)))) none := chain_eq (setm_lt hlt) hn
    rw [chn_set hlt] at hch
    have hso' : F_set_of [tupN l] = .rt (.a (.int ((setm l : Nat) : Int))) none := hso
    simp [asIns_ord, hso', hch, nfc, ioOf]
theorem antiT_eq {n : Nat} {T : Tb} {l : List Nat} (hl : l.length ≤ 1000) (hn : n ≤ 60) (hi : Irr n T) : F_is_antichain [ordT n T, tupN l] = .rt (.a (.bl (ascN n 0 l && fits T false l))) none := by
  apply wf_eq
  unfold F_is_antichain
  rw [wf_fn]
  unfold B_is_antichain
  simp [isF_ordT, frz_ordT, points_eq hl]
  cases ha : ascN n 0 l with
  | false => simp [ioOf]
  | true =>
    have hlt := ascN_lt ha
    have hso := set_of_eq (k := .tup) (l := l) (.inr rfl) (by omega) (fun x hx => by have := hlt x hx; omega)
    have hch : F_Order_is_antichain [.n (.ins "Order" ["n", "above"]) false [.a (.int (n : Int)), .n .tup false (vec n (mrow n T))], .a (.int ((setm l : Nat) : Int))] = .rt (.a (.bl (anti n T (setm l)))) none := antichain_eq (setm_lt hlt) hn
    rw [anti_set hlt hi] at hch
    have hso' : F_set_of [tupN l] = .rt (.a (.int ((setm l : Nat) : Int))) none := hso
    simp [asIns_ord, hso', hch, nfa, ioOf]
theorem law_fits_eq {n : Nat} {T : Tb} {r : Bool} {l : List Nat} (hl : l.length ≤ 1000) (hlt : ∀ x ∈ l, x < n) : F_law_fits [tabD n T, tupN l, .a (.bl r)] = .rt (.a (.bl (fits T r l))) none := by
  apply wf_eq
  unfold F_law_fits
  rw [wf_fn]
  unfold B_law_fits
  have e2 : ∀ P : List D → Prop, SO (itemsOf (tupN l)) P = P (l.map natD) := fun P => by unfold tupN; simp; omega
  refine wp_step fun K hK => ?_
  simp [e2]
  refine wp_forK (fun i ρ => ∃ (v3 v4 : Option D), ρ = [some (tabD n T), some (tupN l), some (.a (.bl r)), v3, v4] ∧ ∀ x ∈ l.take i, ∀ y ∈ l, (decide (x = y) || ((T x y || T y x) == r)) = true) ⟨none, none, rfl, by simp⟩ ?_ ?_
  · intro i d ρ hd h J hJ
    obtain ⟨v3, v4, hρ, h1⟩ := h
    subst hρ
    obtain ⟨x, hx, rfl⟩ := natD_get hd
    have hxl := List.mem_of_getElem? hx
    have hxn := hlt x hxl
    simp [e2]
    refine wp_forK (fun j ρ => ∃ (v4 : Option D), ρ = [some (tabD n T), some (tupN l), some (.a (.bl r)), some (natD x), v4] ∧ ∀ y ∈ l.take j, (decide (x = y) || ((T x y || T y x) == r)) = true) ⟨v4, rfl, by simp⟩ ?_ ?_
    · intro j d ρ hd h J2 hJ2
      obtain ⟨v4, hρ, h2⟩ := h
      subst hρ
      obtain ⟨y, hy, rfl⟩ := natD_get hd
      have hyl := List.mem_of_getElem? hy
      have hyn := hlt y hyl
      have go : (decide (x = y) || ((T x y || T y x) == r)) = true → J2 [some (tabD n T), some (tupN l), some (.a (.bl r)), some (.a (.int (x : Int))), some (.a (.int (y : Int)))] := fun q => by
        refine hJ2 _ ⟨some (natD y), rfl, ?_⟩
        intro z hz
        rw [List.take_succ, hy] at hz
        rcases List.mem_append.mp hz with hz | hz
        · exact h2 z hz
        · simp at hz; subst hz; exact q
      have ng : (decide (x = y) || ((T x y || T y x) == r)) = false → fits T r l = false := fun q => by
        cases hf : fits T r l with
        | false => rfl
        | true =>
          unfold fits at hf
          have := List.all_eq_true.mp (List.all_eq_true.mp hf x hxl) y hyl
          rw [q] at this
          cases this
      simp [natD, g_row' hxn, g_row' hyn, g_cell hxn, g_cell hyn]
      by_cases e : x = y
      · subst e
        simp
        exact go (by simp)
      · have e2 : ¬ (x : Int) = y := by omega
        simp [e2]
        cases q1 : T x y <;> cases q2 : T y x <;> cases q3 : r <;> simp [q1, q2, q3, e, ioOf] at go ng ⊢ <;> first | exact go | exact ng
    · intro ρ h
      obtain ⟨v4, hρ, h2⟩ := h
      subst hρ
      refine hJ _ ⟨some (natD x), v4, rfl, ?_⟩
      have et : l.take (l.map natD).length = l := List.take_of_length_le (by simp)
      rw [et] at h2
      intro z hz
      rw [List.take_succ, hx] at hz
      rcases List.mem_append.mp hz with hz | hz
      · exact h1 z hz
      · simp at hz; subst hz; exact h2
  · intro ρ h
    obtain ⟨v3, v4, hρ, h1⟩ := h
    subst hρ
    have et : l.take (l.map natD).length = l := List.take_of_length_le (by simp)
    rw [et] at h1
    apply hK
    simp [ioOf]
    unfold fits
    rw [List.all_eq_true]
    intro x hx
    rw [List.all_eq_true]
    exact h1 x hx
end DC
namespace DC
open PySem L2 DL
theorem eqDL_ints : ∀ (a b : List Int), eqDL (a.map D.int) (b.map D.int) = decide (a = b)
  | [], [] => by simp [eqDL]
  | [], y :: b => by simp [eqDL]
  | x :: a, [] => by simp [eqDL]
  | x :: a, y :: b => by
    rw [List.map_cons, List.map_cons, eqDL, eqDL_ints a b, eqD]
    simp [eqA]
    rw [Bool.eq_iff_iff]
    simp
theorem pDL_ints {m : Nat} {a : List Int} : pDL m (a.map D.int) = true := pDL_all fun x hx => by
  obtain ⟨i, _, rfl⟩ := List.mem_map.mp hx
  simp [pD]
theorem o_eqLI {o o' : Bool} {a b : List Int} {P : D → Prop} : SO (gEq (.n .lst o (a.map D.int)) (.n .lst o' (b.map D.int))) P = P (.a (.bl (decide (a = b)))) := by
  rw [so_eqP (by simp [pD, pDL_ints]) (by simp [pD, pDL_ints]) (fun x y h => by cases h.1), eqD, eqDL_ints]
def cov (n : Nat) (Ps : List (List Nat)) : Bool := (Ps.all fun p => ascN n 0 p && !p.isEmpty) && decide (sortI (Ps.flatten.map fun (d : Nat) => (d : Int)) = (List.range n).map fun (d : Nat) => (d : Int))
def parD (Ps : List (List Nat)) : D := .n .tup false (Ps.map tupN)
@[simp] theorem isF_parD {Ps : List (List Nat)} : isF (parD Ps) = true := by
  unfold parD
  rw [isF_n, isFL_map fun _ => isF_tupN]
  rfl
@[simp] theorem frz_parD {Ps : List (List Nat)} : frz (parD Ps) = parD Ps := frz_isF _ isF_parD
theorem par_get {Ps : List (List Nat)} {i : Nat} {d : D} (h : (Ps.map tupN)[i]? = some d) : ∃ p, Ps[i]? = some p ∧ d = tupN p := by
  rw [List.getElem?_map] at h
  cases e : Ps[i]? with
  | none => rw [e] at h; cases h
  | some p => rw [e] at h; cases h; exact ⟨p, rfl, rfl⟩
theorem once_eq {n : Nat} {T : Tb} {Ps : List (List Nat)} (hn : n ≤ 60) (h1 : Ps.length ≤ 100) (h2 : ∀ p ∈ Ps, p.length ≤ 1000) : F_covers_once [ordT n T, parD Ps] = .rt (.a (.bl (cov n Ps))) none := by
  apply wf_eq
  unfold F_covers_once
  rw [wf_fn]
  unfold B_covers_once
  have e1 : ∀ P : D → Prop, SO (gIsi "tuple" (parD Ps)) P = P (.a (.bl true)) := fun P => by unfold parD; rw [o_isi (t := "tuple") rfl]; simp [isiT]
  have e2 : ∀ P : List D → Prop, SO (itemsOf (parD Ps)) P = P (Ps.map tupN) := fun P => by unfold parD; simp; omega
  refine wp_step fun K hK => ?_
  simp [e1]
  apply hK
  clear hK K
  refine wp_step fun K hK => ?_
  simp
  apply hK
  clear hK K
  have hflat : ∀ i, (Ps.take i).flatten.length ≤ 100000 := fun i => by
    have := flat_len (l := Ps.take i) (f := fun p => p) (c := 1000) fun p hp => h2 p (List.mem_of_mem_take hp)
    rw [List.flatMap_id'] at this
    have h3 : (Ps.take i).length ≤ 100 := Nat.le_trans (by simp; omega) h1
    exact Nat.le_trans this (by omega)
  refine wp_cutK (fun ρ => ∃ v3 : Option D, ρ = [some (ordT n T), some (parD Ps), some (.n .lst false (Ps.flatten.map natD)), v3] ∧ (Ps.all fun p => ascN n 0 p && !p.isEmpty) = true) (fun K hK => ?_) ?_
  · simp [e2]
    refine wp_forK (fun i ρ => ∃ v3 : Option D, ρ = [some (ordT n T), some (parD Ps), some (.n .lst false ((Ps.take i).flatten.map natD)), v3] ∧ ∀ p ∈ Ps.take i, (ascN n 0 p && !p.isEmpty) = true) ⟨none, rfl, by simp⟩ ?_ ?_
    · intro i d ρ hd h J hJ
      obtain ⟨v3, hρ, hall⟩ := h
      subst hρ
      obtain ⟨p, hp, rfl⟩ := par_get hd
      have hpm := List.mem_of_getElem? hp
      have hpl := h2 p hpm
      have hf := hflat i
      have elen : ∀ P : D → Prop, SO (gLen (tupN p)) P = P (.a (.int (p.length : Nat))) := fun P => by unfold tupN; simp
      have elst : ∀ P : D → Prop, SO (gList (tupN p)) P = P (.lst true (p.map natD)) := fun P => by unfold tupN; simp
      have ng : (ascN n 0 p && !p.isEmpty) = false → cov n Ps = false := fun q => by
        cases hc : cov n Ps with
        | false => rfl
        | true =>
          unfold cov at hc
          rw [Bool.and_eq_true] at hc
          have := List.all_eq_true.mp hc.1 p hpm
          rw [q] at this
          cases this
      have hJ' : (ascN n 0 p && !p.isEmpty) = true → J [some (ordT n T), some (parD Ps), some (.n .lst false ((Ps.take i).flatten.map natD ++ p.map natD)), some (tupN p)] := fun q => by
        refine hJ _ ⟨some (tupN p), ?_, ?_⟩
        · rw [List.take_succ, hp, List.flatten_append, List.map_append]
          simp
        · intro r hr
          rw [List.take_succ, hp] at hr
          rcases List.mem_append.mp hr with hr | hr
          · exact hall r hr
          · simp at hr; subst hr; exact q
      generalize (Ps.take i).flatten = F at *
      have hcat : ∀ P : D → Prop, SO (gAdd (.n .lst false (F.map natD)) (.n .lst true (p.map natD))) P = P (.lst true (F.map natD ++ p.map natD)) := fun P => catL isFL_nat isFL_nat (by simp; omega)
      have hfz : frzL (F.map natD ++ p.map natD) = F.map natD ++ p.map natD := by rw [← List.map_append]; exact frzL_nat
      simp [isF_ordT, frz_ordT, points_eq hpl, elen, elst, hcat, hfz]
      cases ha : ascN n 0 p with
      | false => simp [ioOf]; exact ng (by simp [ha])
      | true =>
        simp
        by_cases hpe : p = []
        · simp [hpe, ioOf]; exact ng (by simp [hpe])
        · have : ¬ (p.length : Int) = 0 := by
            have : 0 < p.length := List.length_pos_iff.mpr hpe
            omega
          simp [hpe]
          exact hJ' (by simp [ha, hpe])
    · intro ρ h
      obtain ⟨v3, hρ, hall⟩ := h
      subst hρ
      have et : Ps.take (Ps.map tupN).length = Ps := List.take_of_length_le (by simp)
      rw [et] at hall ⊢
      exact hK _ ⟨v3, rfl, List.all_eq_true.mpr hall⟩
  · intro ρ h
    obtain ⟨v3, hρ, hall⟩ := h
    subst hρ
    have hr : intL 0 n = ((List.range n).map fun (d : Nat) => (d : Int)).map D.int := by
      unfold intL
      rw [List.map_map]
      apply List.map_congr_left
      intro a _
      simp
    have hc : cov n Ps = decide (sortI (Ps.flatten.map fun (d : Nat) => (d : Int)) = (List.range n).map fun (d : Nat) => (d : Int)) := by
      unfold cov
      rw [hall, Bool.true_and]
    rw [hc]
    generalize Ps.flatten = F
    generalize hG : (List.range n).map (fun (d : Nat) => (d : Int)) = G at *
    simp [sort_nat, isF_ordT, asIns_ord, size_eq', hr, nfs, o_eqLI, ioOf]
    omega
theorem covers_bad {n : Nat} {T : Tb} {ys xs : List D} (hy : isFL ys = true) (hx : isFL xs = true) (hl : xs.length ≤ 1000) : F_covers_once [ordT n T, .n .tup false (.n .lst false ys :: xs)] = .rt (.a (.bl false)) none := by
  have hp : F_is_points [ordT n T, .n .lst false ys] = .rt (.a (.bl false)) none := by
    apply wf_eq
    unfold F_is_points
    rw [wf_fn]
    unfold B_is_points
    refine wp_step fun K hK => ?_
    simp [hy, o_isi (t := "list") (d := .n .lst false ys) rfl, isiT, ioOf]
  apply wf_eq
  unfold F_covers_once
  rw [wf_fn]
  unfold B_covers_once
  refine wp_step fun K hK => ?_
  simp [hy, hx, o_isi (t := "tuple") (d := .n .tup false (.n .lst false ys :: xs)) rfl, isiT]
  apply hK
  clear hK K
  refine wp_step fun K hK => ?_
  simp
  apply hK
  clear hK K
  refine wp_step fun K hK => ?_
  have hfy : frzL ys = ys := frzL_isFL _ hy
  simp [hy, hx]
  refine ⟨by omega, ?_⟩
  refine wp_forK (fun i ρ => i = 0 ∧ ρ = [some (ordT n T), some (.n .tup false (.n .lst false ys :: xs)), some (.n .lst false []), none]) ⟨rfl, rfl⟩ ?_ ?_
  · intro i d ρ hd h J hJ
    obtain ⟨rfl, rfl⟩ := h
    cases hd
    simp [isF_ordT, frz_ordT, hy, hfy, hp, ioOf]
  · intro ρ h
    exact absurd h.1 (by simp)
theorem covers_no {n : Nat} {T : Tb} {d : D} {t : String} (h : tyN d = some t) (ht : isiT t "tuple" = false) (hf : isF d = true) : F_covers_once [ordT n T, d] = .rt (.a (.bl false)) none := by
  apply wf_eq
  unfold F_covers_once
  rw [wf_fn]
  unfold B_covers_once
  refine wp_step fun K hK => ?_
  simp [hf, o_isi h, ht, ioOf]
theorem points_no {n : Nat} {T : Tb} {d : D} {t : String} (h : tyN d = some t) (ht : isiT t "tuple" = false) (hf : isF d = true) : F_is_points [ordT n T, d] = .rt (.a (.bl false)) none := by
  apply wf_eq
  unfold F_is_points
  rw [wf_fn]
  unfold B_is_points
  refine wp_step fun K hK => ?_
  simp [hf, o_isi h, ht, ioOf]
/-- what is no covering is no parting -/
theorem chainP_no {n : Nat} {T : Tb} {d : D} (hf : isF d = true) (h : F_covers_once [ordT n T, d] = .rt (.a (.bl false)) none) : F_is_chain_parting [ordT n T, d] = .rt (.a (.bl false)) none := by
  apply wf_eq
  unfold F_is_chain_parting
  rw [wf_fn]
  unfold B_is_chain_parting
  simp [isF_ordT, frz_ordT, hf, frz_isF _ hf, h, ioOf]
theorem antiP_no {n : Nat} {T : Tb} {d : D} (hf : isF d = true) (h : F_covers_once [ordT n T, d] = .rt (.a (.bl false)) none) : F_is_antichain_parting [ordT n T, d] = .rt (.a (.bl false)) none := by
  apply wf_eq
  unfold F_is_antichain_parting
  rw [wf_fn]
  unfold B_is_antichain_parting
  simp [isF_ordT, frz_ordT, hf, frz_isF _ hf, h, ioOf]
theorem chainT_no {n : Nat} {T : Tb} {d : D} (hf : isF d = true) (h : F_is_points [ordT n T, d] = .rt (.a (.bl false)) none) : F_is_chain [ordT n T, d] = .rt (.a (.bl false)) none := by
  apply wf_eq
  unfold F_is_chain
  rw [wf_fn]
  unfold B_is_chain
  simp [isF_ordT, frz_ordT, hf, frz_isF _ hf, h, ioOf]
theorem antiT_no {n : Nat} {T : Tb} {d : D} (hf : isF d = true) (h : F_is_points [ordT n T, d] = .rt (.a (.bl false)) none) : F_is_antichain [ordT n T, d] = .rt (.a (.bl false)) none := by
  apply wf_eq
  unfold F_is_antichain
  rw [wf_fn]
  unfold B_is_antichain
  simp [isF_ordT, frz_ordT, hf, frz_isF _ hf, h, ioOf]
def natsOf : D → List Nat
  | .n _ _ xs => xs.map natOf
  | _ => []
@[simp] theorem natsOf_tupN {l : List Nat} : natsOf (tupN l) = l := by
  show (l.map natD).map natOf = l
  rw [List.map_map]
  exact List.map_id' l
theorem blsOf_map {α : Type} {f : α → Bool} : ∀ l : List α, blsOf (l.map fun x => D.a (.bl (f x))) = some (l.map f)
  | [] => rfl
  | x :: l => by
    rw [List.map_cons, List.map_cons]
    unfold blsOf
    rw [blsOf_map l]
    rfl
theorem o_allL {α : Type} {o : Bool} {l : List α} {f : α → Bool} {P : D → Prop} : SO (gAll (.n .lst o (l.map fun x => .a (.bl (f x))))) P = P (.a (.bl (l.all f))) := by
  unfold gAll
  dsimp only
  rw [blsOf_map]
  simp [List.all_map]
theorem chainP_eq {n : Nat} {T : Tb} {Ps : List (List Nat)} (hn : n ≤ 60) (h1 : Ps.length ≤ 100) (h2 : ∀ p ∈ Ps, p.length ≤ 1000) : F_is_chain_parting [ordT n T, parD Ps] = .rt (.a (.bl (cov n Ps && Ps.all (fits T true)))) none := by
  cases hc : cov n Ps with
  | false => rw [Bool.false_and]; exact chainP_no isF_parD (by rw [once_eq hn h1 h2, hc])
  | true =>
    apply wf_eq
    unfold F_is_chain_parting
    rw [wf_fn]
    unfold B_is_chain_parting
    have hco := once_eq (T := T) hn h1 h2
    rw [hc] at hco
    have e2 : ∀ P : List D → Prop, SO (itemsOf (parD Ps)) P = P (Ps.map tupN) := fun P => by unfold parD; simp; omega
    simp [isF_ordT, frz_ordT, hco, e2]
    refine ⟨by omega, ?_⟩
    rw [lcL_run (fun _ => true) (fun d => .a (.bl (ascN n 0 (natsOf d) && fits T true (natsOf d))))]
    · rw [wo_ok, List.filter_eq_self.mpr (fun _ _ => rfl), List.map_map]
      have e : ((fun d => D.a (.bl (ascN n 0 (natsOf d) && fits T true (natsOf d)))) ∘ tupN) = fun p => D.a (.bl (ascN n 0 p && fits T true p)) := by
        funext p
        simp
      rw [e, o_allL]
      simp [ioOf]
      unfold cov at hc
      rw [Bool.and_eq_true] at hc
      have ha := List.all_eq_true.mp hc.1
      rw [Bool.eq_iff_iff, List.all_eq_true, List.all_eq_true]
      constructor
      · intro q p hp
        have := q p hp
        rw [Bool.and_eq_true] at this
        exact this.2
      · intro q p hp
        have := ha p hp
        rw [Bool.and_eq_true] at this
        rw [this.1, q p hp]
        rfl
    · intro d hd
      obtain ⟨p, hp, rfl⟩ := List.mem_map.mp hd
      simp [isF_ordT, frz_ordT, chainT_eq (h2 p hp) hn]
theorem antiP_eq {n : Nat} {T : Tb} {Ps : List (List Nat)} (hn : n ≤ 60) (hi : Irr n T) (h1 : Ps.length ≤ 100) (h2 : ∀ p ∈ Ps, p.length ≤ 1000) : F_is_antichain_parting [ordT n T, parD Ps] = .rt (.a (.bl (cov n Ps && Ps.all (fits T false)))) none := by
  cases hc : cov n Ps with
  | false => rw [Bool.false_and]; exact antiP_no isF_parD (by rw [once_eq hn h1 h2, hc])
  | true =>
    apply wf_eq
    unfold F_is_antichain_parting
    rw [wf_fn]
    unfold B_is_antichain_parting
    have hco := once_eq (T := T) hn h1 h2
    rw [hc] at hco
    have e2 : ∀ P : List D → Prop, SO (itemsOf (parD Ps)) P = P (Ps.map tupN) := fun P => by unfold parD; simp; omega
    simp [isF_ordT, frz_ordT, hco, e2]
    refine ⟨by omega, ?_⟩
    rw [lcL_run (fun _ => true) (fun d => .a (.bl (ascN n 0 (natsOf d) && fits T false (natsOf d))))]
    · rw [wo_ok, List.filter_eq_self.mpr (fun _ _ => rfl), List.map_map]
      have e : ((fun d => D.a (.bl (ascN n 0 (natsOf d) && fits T false (natsOf d)))) ∘ tupN) = fun p => D.a (.bl (ascN n 0 p && fits T false p)) := by
        funext p
        simp
      rw [e, o_allL]
      simp [ioOf]
      unfold cov at hc
      rw [Bool.and_eq_true] at hc
      have ha := List.all_eq_true.mp hc.1
      rw [Bool.eq_iff_iff, List.all_eq_true, List.all_eq_true]
      constructor
      · intro q p hp
        have := q p hp
        rw [Bool.and_eq_true] at this
        exact this.2
      · intro q p hp
        have := ha p hp
        rw [Bool.and_eq_true] at this
        rw [this.1, q p hp]
        rfl
    · intro d hd
      obtain ⟨p, hp, rfl⟩ := List.mem_map.mp hd
      simp [isF_ordT, frz_ordT, antiT_eq (h2 p hp) hn hi]
/-! ### all labels of up to six points -/
def allL : Nat → List (List Nat)
  | 0 => [[]]
  | n + 1 => (allL n).flatMap fun l => [l ++ [0], l ++ [1], l ++ [2]]
theorem allL_mem {f : Nat → Nat} : ∀ {n : Nat}, (∀ i, i < n → f i < 3) → (List.range n).map f ∈ allL n
  | 0, _ => by simp [allL]
  | n + 1, h => by
    unfold allL
    rw [List.mem_flatMap]
    refine ⟨(List.range n).map f, allL_mem fun i hi => h i (by omega), ?_⟩
    rw [List.range_succ, List.map_append]
    have := h n (by omega)
    have h3 : f n = 0 ∨ f n = 1 ∨ f n = 2 := by omega
    rcases h3 with e | e | e <;> simp [e]
def partL (L : List Nat) (a : Nat) : List Nat := (List.range L.length).filter fun x => decide (L.getD x 0 = a)
def partsOf (L : List Nat) : List (List Nat) := ([0, 1, 2].map (partL L)).filter fun p => !p.isEmpty
def chkP (n : Nat) (Ps : List (List Nat)) : Bool := match Ps with
  | [] => false
  | h :: t => cov n (h :: t) && !cov n t && !cov n (h :: t ++ [h]) && !cov n (h :: t ++ [[]]) && !cov n (h :: t ++ [[n]]) && !cov n ((h ++ h) :: t) && (decide (h.length ≤ 1) || !cov n (h.reverse :: t))
theorem chk_all : ([1, 2, 3, 4, 5, 6].all fun n => (allL n).all fun L => chkP n (partsOf L)) = true := by decide +kernel
theorem chk_of {f : Nat → Nat} {n : Nat} (h0 : 0 < n) (hn : n ≤ 6) (h : ∀ i, i < n → f i < 3) : chkP n (partsOf ((List.range n).map f)) = true := by
  have hm : n ∈ [1, 2, 3, 4, 5, 6] := by
    have : n = 1 ∨ n = 2 ∨ n = 3 ∨ n = 4 ∨ n = 5 ∨ n = 6 := by omega
    simpa using this
  exact List.all_eq_true.mp (List.all_eq_true.mp chk_all n hm) _ (allL_mem h)
theorem partL_eq {f : Nat → Nat} {n a : Nat} : partL ((List.range n).map f) a = (List.range n).filter fun x => decide (f x = a) := by
  unfold partL
  rw [List.length_map, List.length_range]
  apply List.filter_congr
  intro x hx
  have := List.mem_range.mp hx
  simp [List.getD_eq_getElem?_getD, this]
theorem ascN_of {n : Nat} : ∀ (l : List Nat) (lo : Nat), l.Pairwise (· < ·) → (∀ x ∈ l, lo ≤ x ∧ x < n) → ascN n lo l = true
  | [], _, _, _ => rfl
  | x :: l, lo, hp, hx => by
    have h1 := List.pairwise_cons.mp hp
    have h2 := hx x (by simp)
    rw [ascN_cons, decide_eq_true h2.1, decide_eq_true h2.2, ascN_of l (x + 1) h1.2 fun y hy => ⟨h1.1 y hy, (hx y (List.mem_cons_of_mem _ hy)).2⟩]
    rfl
theorem ascN_filter {n : Nat} {p : Nat → Bool} : ascN n 0 ((List.range n).filter p) = true := ascN_of _ _ (List.Pairwise.filter _ List.pairwise_lt_range) fun x hx => ⟨Nat.zero_le _, List.mem_range.mp (List.mem_filter.mp hx).1⟩
theorem points_at {n : Nat} {T : Tb} {d : D} (hf : isF d = true) (h : F_is_integer [d] = .rt (.a (.bl false)) none) : F_is_points [ordT n T, .n .tup false [d]] = .rt (.a (.bl false)) none := by
  apply wf_eq
  unfold F_is_points
  rw [wf_fn]
  unfold B_is_points
  refine wp_step fun K hK => ?_
  simp [hf, o_isi (t := "tuple") (d := .n .tup false [d]) rfl, isiT]
  apply hK
  clear hK K
  refine wp_step fun K hK => ?_
  simp
  apply hK
  clear hK K
  refine wp_step fun K hK => ?_
  simp [hf]
  refine wp_forK (fun i ρ => i = 0 ∧ ρ = [some (ordT n T), some (.n .tup false [d]), some (.a (.int (-1))), none]) ⟨rfl, rfl⟩ ?_ ?_
  · intro i d ρ hd h J hJ
    obtain ⟨rfl, rfl⟩ := h
    cases hd
    simp [hf, frz_isF _ hf, h, ioOf]
  · intro ρ h
    exact absurd h.1 (by simp)
theorem points_neg {n : Nat} {T : Tb} : F_is_points [ordT n T, .n .tup false [.a (.int (-1))]] = .rt (.a (.bl false)) none := by
  apply wf_eq
  unfold F_is_points
  rw [wf_fn]
  unfold B_is_points
  refine wp_step fun K hK => ?_
  simp [o_isi (t := "tuple") (d := .n .tup false [.a (.int (-1))]) rfl, isiT]
  apply hK
  clear hK K
  refine wp_step fun K hK => ?_
  simp
  apply hK
  clear hK K
  refine wp_step fun K hK => ?_
  simp
  refine wp_forK (fun i ρ => i = 0 ∧ ρ = [some (ordT n T), some (.n .tup false [.a (.int (-1))]), some (.a (.int (-1))), none]) ⟨rfl, rfl⟩ ?_ ?_
  · intro i d ρ hd h J hJ
    obtain ⟨rfl, rfl⟩ := h
    cases hd
    simp [isint_eq, ioOf]
  · intro ρ h
    exact absurd h.1 (by simp)
end DC
namespace DC
open PySem L2 DL
/-! ### sums of two orders -/
abbrev ltT : Tb := fun a b => decide (a < b)
theorem chain_k {k : Nat} (hk : k ≤ 10) : F_chain [.a (.int (k : Int))] = .rt (bldO k ltT) none := by
  have h : k = 0 ∨ k = 1 ∨ k = 2 ∨ k = 3 ∨ k = 4 ∨ k = 5 ∨ k = 6 ∨ k = 7 ∨ k = 8 ∨ k = 9 ∨ k = 10 := by omega
  rcases h with h | h | h | h | h | h | h | h | h | h | h <;> subst h <;> kernel_rfl
theorem ltT_tr {n : Nat} : Tr n ltT := fun a b c _ _ _ h1 h2 => by
  simp [ltT] at h1 h2 ⊢
  omega
theorem ltT_irr {n : Nat} : Irr n ltT := fun x _ => by simp [ltT]
def besT (m : Nat) (A B : Tb) : Tb := fun p q => (decide (p < m) && (decide (q < m) && A p q)) || (decide (m ≤ p) && (decide (m ≤ q) && B (p - m) (q - m)))
theorem besT_iff {m p q : Nat} {A B : Tb} : besT m A B p q = true ↔ (p < m ∧ q < m ∧ A p q = true) ∨ (m ≤ p ∧ m ≤ q ∧ B (p - m) (q - m) = true) := by
  unfold besT
  simp
theorem besT_tr {m n : Nat} {A B : Tb} (tA : Tr m A) (tB : Tr n B) : Tr (m + n) (besT m A B) := fun a b c ha hb hc h1 h2 => by
  rw [besT_iff] at h1 h2 ⊢
  rcases h1 with h1 | h1
  · rcases h2 with h2 | h2
    · exact .inl ⟨h1.1, h2.2.1, tA a b c h1.1 h1.2.1 h2.2.1 h1.2.2 h2.2.2⟩
    · omega
  · rcases h2 with h2 | h2
    · omega
    · exact .inr ⟨h1.1, h2.2.1, tB _ _ _ (by omega) (by omega) (by omega) h1.2.2 h2.2.2⟩
theorem besT_irr {m n : Nat} {A B : Tb} (iA : Irr m A) (iB : Irr n B) : Irr (m + n) (besT m A B) := fun x hx => by
  cases h : besT m A B x x with
  | false => rfl
  | true =>
    rw [besT_iff] at h
    rcases h with h | h
    · rw [iA x h.1] at h; cases h.2.2
    · rw [iB (x - m) (by omega)] at h; cases h.2.2
theorem mem_bes {m n : Nat} {A B : Tb} {p q : Nat} (hp : p < m + n) (hq : q < m + n) : (p, q) ∈ prs m A ++ shf m (prs n B) ↔ besT m A B p q = true := by
  rw [besT_iff, List.mem_append]
  unfold shf
  rw [mem_prs, List.mem_map]
  constructor
  · rintro (h | ⟨⟨x, y⟩, hxy, e⟩)
    · exact .inl h
    · obtain ⟨h1, h2, h3⟩ := mem_prs.mp hxy
      cases e
      exact .inr ⟨by omega, by omega, by simpa using h3⟩
  · rintro (h | ⟨h1, h2, h3⟩)
    · exact .inl h
    · exact .inr ⟨(p - m, q - m), mem_prs.mpr ⟨by omega, by omega, h3⟩, by simp; omega⟩
theorem parallel_eq {m n : Nat} {A B : Tb} (hN : m + n ≤ 10) (tA : Tr m A) (iA : Irr m A) (tB : Tr n B) (iB : Irr n B) : F_parallel [ordT m A, ordT n B] = .rt (bldO (m + n) (besT m A B)) none := by
  apply wf_eq
  unfold F_parallel
  rw [wf_fn]
  unfold B_parallel
  have hlen : ∀ (k : Nat) (S : Tb) (P : D → Prop), k ≤ 60 → SO (gLenO "Order" F_OrderU_lenU (ordT k S)) P = P (.a (.int (k : Int))) := fun k S P hk => o_len_ord (by omega)
  have hl1 := hlen m A
  have hl2 := hlen n B
  have hlim : F_u_limited [.a (.int ((m : Int) + n))] = .rt (.a (.int ((m : Int) + n))) none := by
    have := limited_eq hN
    simpa using this
  have hmv := moved_eq (n := n) (c := m) (T := B) (by omega)
  have hpA : (prs m A).length ≤ 100 := Nat.le_trans prs_lenn (Nat.mul_le_mul (show m ≤ 10 by omega) (show m ≤ 10 by omega))
  have hpB : (prs n B).length ≤ 100 := Nat.le_trans prs_lenn (Nat.mul_le_mul (show n ≤ 10 by omega) (show n ≤ 10 by omega))
  have hcat : ∀ P : D → Prop, SO (gAdd (.n .lst true ((prs m A).map prD)) (.n .lst true (((prs n B).map fun p => (p.1 + m, p.2 + m)).map prD))) P = P (.lst true ((prs m A ++ shf m (prs n B)).map prD)) := fun P => by
    rw [catL isFL_pr isFL_pr (by simp; omega), ← List.map_append]
    rfl
  have hbd : Bd (m + n) (prs m A ++ shf m (prs n B)) := fun p hp => by
    rcases List.mem_append.mp hp with h | h
    · have := prs_bd p h
      omega
    · unfold shf at h
      obtain ⟨q, hq, rfl⟩ := List.mem_map.mp h
      have := prs_bd q hq
      simp
      omega
  have hmk := mk_of (k := .lst) (T := besT m A B) (.inl rfl) hbd (fun a b ha hb => clo_of hbd (fun x y hx hy => mem_bes hx hy) (besT_tr tA tB) ha hb) (besT_irr iA iB) hN (by unfold shf; simp; omega)
  have hfz := frzL_pr (l := prs m A ++ shf m (prs n B))
  generalize prs m A ++ shf m (prs n B) = L at *
  rw [Int.natCast_add] at hmk
  simp only [p_Bind, w_Make, w_ACons, w_ANil, w_Call, w_Op2, w_U, w_Var, wo_ok, so_some, List.map_cons, List.map_nil, List.cons_append, List.getElem?_cons_zero, List.getElem?_cons_succ, isF_ordT, true_and, hl1 _ (show m ≤ 60 by omega), hl2 _ (show n ≤ 60 by omega), o_add, agL_cons, agL_nil, Option.map_some, frzL_cons, frzL_nil, frz_a, frz_ordT, List.length_cons, List.length_nil, hlim, wf_rt, w_Meth, asIns_ord, nfp, pairs_eq' (show m ≤ 60 by omega), o_listT, hmv, hcat, frz_n, hfz, hmk]
  refine ⟨⟨by simpa using nfp, by simp⟩, ?_⟩
  simp [ioOf]
/-! ### one above the other -/
def sab (m n : Nat) : Nat → Nat := fun x => if x = 0 then m else n
def Tab (A B : Tb) : Nat → Tb := fun x => if x = 0 then A else B
theorem stt_sab {m n : Nat} : stt (sab m n) 2 = m + n := by simp [stt, sab]
def ovrT (m : Nat) (A B : Tb) : Tb := fun p q => besT m A B p q || (decide (p < m) && decide (m ≤ q))
theorem ovr_lex {m n p q : Nat} {A B : Tb} (hp : p < m + n) (hq : q < m + n) : lexT 2 (sab m n) ltT (Tab A B) p q = ovrT m A B p q := by
  have key : ∀ p, p < m + n → ∃ x i, x < 2 ∧ i < sab m n x ∧ p = stt (sab m n) x + i ∧ ((p < m ∧ x = 0 ∧ i = p) ∨ (m ≤ p ∧ x = 1 ∧ i = p - m)) := fun p hp => by
    by_cases h : p < m
    · exact ⟨0, p, by omega, by simpa [sab] using h, by simp [stt], .inl ⟨h, rfl, rfl⟩⟩
    · exact ⟨1, p - m, by omega, by simp [sab]; omega, by simp [stt, sab]; omega, .inr ⟨by omega, rfl, rfl⟩⟩
  obtain ⟨x, i, hx, hi, ep, h1⟩ := key p hp
  obtain ⟨y, k, hy, hk, eq, h2⟩ := key q hq
  have := lexT_val (s := sab m n) (A := ltT) (B := Tab A B) hx hi hy hk
  rw [← ep, ← eq] at this
  rw [this]
  unfold ovrT besT
  rcases h1 with ⟨h1, rfl, rfl⟩ | ⟨h1, rfl, rfl⟩ <;> rcases h2 with ⟨h2, rfl, rfl⟩ | ⟨h2, rfl, rfl⟩
  · have a1 : ¬ m ≤ k := by omega
    have a2 : ¬ m ≤ i := by omega
    simp [ltT, Tab, h1, h2, a1, a2]
  · have a1 : ¬ q < m := by omega
    simp [ltT, Tab, h1, h2]
  · have a1 : ¬ p < m := by omega
    have a2 : ¬ m ≤ k := by omega
    simp [ltT, Tab, a1, a2]
  · have a1 : ¬ p < m := by omega
    have a2 : ¬ q < m := by omega
    simp [ltT, Tab, h1, h2, a1]
theorem ordinal_eq {m n : Nat} {A B : Tb} (hN : m + n ≤ 10) (tA : Tr m A) (iA : Irr m A) (tB : Tr n B) (iB : Irr n B) : F_ordinal [ordT m A, ordT n B] = .rt (bldO (m + n) (lexT 2 (sab m n) ltT (Tab A B))) none := by
  have h := lexsum_eq (kd := .tup) (m := 2) (s := sab m n) (A := ltT) (B := Tab A B) (.inr rfl) (by omega) (by rw [stt_sab]; exact hN) ltT_tr ltT_irr (fun x hx => by unfold sab Tab; split <;> assumption) (fun x hx => by unfold sab Tab; split <;> assumption)
  rw [stt_sab] at h
  have e : (vec 2 fun x => ordT (sab m n x) (Tab A B x)) = [ordT m A, ordT n B] := rfl
  rw [e] at h
  have hc : F_chain [.a (.int 2)] = .rt (bldO 2 ltT) none := chain_k (k := 2) (by omega)
  apply wf_eq
  unfold F_ordinal
  rw [wf_fn]
  unfold B_ordinal
  have hz : frz (bldO 2 ltT) = ordT 2 ltT := frz_bldO
  simp only [p_Bind, w_Call, w_ACons, w_ANil, w_C, wo_ok, so_some, agL_cons, agL_nil, Option.map_some, frzL_cons, frzL_nil, frz_a, hc, wf_rt, w_Tup, w_Var, List.map_cons, List.map_nil, List.cons_append, List.getElem?_cons_zero, List.getElem?_cons_succ, isF_ordT, true_and, frz_ordT, hz, List.length_cons, List.length_nil]
  refine ⟨by decide, ?_⟩
  have hzt : frz (D.tup [ordT m A, ordT n B]) = .n .tup false [ordT m A, ordT n B] := by
    show frz (D.n .tup false [ordT m A, ordT n B]) = _
    rw [frz_n, frzL_cons, frzL_cons, frzL_nil, frz_ordT, frz_ordT]
  rw [hzt, h]
  simp [ioOf]
end DC
namespace DC
open PySem L2 DL
/-- [[f for y in range(n)] for x in range(n)] -/
theorem w_tab {E : Exn → DL.Env → Prop} {P : D → DL.Env → Prop} {ρ : DL.Env} {a v1 v2 n : Nat} {f : DL.Env → Out D} (T : Tb) (ha : ρ[a]? = some (some (.a (.int (n : Int))))) (hn : n ≤ 1000) (h1 : ∀ d, ρ[v1]? = some (some d) → isF d = true) (h2 : ∀ d, ρ[v2]? = some (some d) → isF d = true) (l1 : v1 < ρ.length) (l2 : v2 < ρ.length) (n1 : v1 ≠ a) (n12 : v1 ≠ v2)
    (hf : ∀ x y, x < n → y < n → f ((ρ.set v1 (some (natD x))).set v2 (some (natD y))) = .ok (.a (.bl (T x y))) ((ρ.set v1 (some (natD x))).set v2 (some (natD y)))) :
    WO E P (dLc [v1] (dRng1 (dVar a)) (tg1 v1) dYes (dLc [v2] (dRng1 (dVar a)) (tg1 v2) dYes f) ρ) = P (.lst true (vec n (brow true n T))) ρ := by
  have hr : ∀ ρ : DL.Env, ρ[a]? = some (some (.a (.int (n : Int)))) → dRng1 (dVar a) ρ = .ok (vec n fun i => .a (.int (i : Int))) ρ := fun ρ h => by
    apply out_eq
    simp [h, intL_vec]
    omega
  rw [w_lcA (fun d => brow true n T (natOf d)) h1 l1 (hr ρ ha) (by rw [vec_len]; omega)]
  · rw [vec_map]
    rfl
  · intro d hd
    obtain ⟨x, hx, rfl⟩ := mem_vec hd
    have ha' : (ρ.set v1 (some (.a (.int (x : Int)))))[a]? = some (some (.a (.int (n : Int)))) := by rw [get_set_ne n1, ha]
    apply out_eq
    rw [w_lcA (f := f) (fun d => .a (.bl (T x (natOf d)))) (fun d' h => by rw [get_set_ne n12] at h; exact h2 d' h) (by simpa using l2) (hr _ ha') (by rw [vec_len]; omega) (fun d hd => by
      obtain ⟨y, hy, rfl⟩ := mem_vec hd
      exact hf x y hx hy)]
    rw [vec_map]
    exact ⟨rfl, rfl⟩
end DC
namespace DC
open PySem L2 DL
/-! ### functions on intervals -/
abbrev Fi : Type := Nat → Nat → Int
def irow (k : Kd) (o : Bool) (n : Nat) (f : Fi) (x : Nat) : D := .n k o (vec n fun y => .a (.int (f x y)))
def irows (k1 k2 : Kd) (n : Nat) (f : Fi) : D := .n k1 false (vec n (irow k2 false n f))
theorem isF_irow {k : Kd} {n : Nat} {f : Fi} {x : Nat} : isF (irow k false n f x) = true := by
  unfold irow
  rw [isF_n, isFL_vec fun _ _ => rfl]
  rfl
theorem isF_irows {k1 k2 : Kd} {n : Nat} {f : Fi} : isF (irows k1 k2 n f) = true := by
  unfold irows
  rw [isF_n, isFL_vec fun _ _ => isF_irow]
  rfl
def Sup (n : Nat) (T : Tb) (f : Fi) : Prop := ∀ x y, x < n → y < n → f x y ≠ 0 → x = y ∨ T x y = true
def incD (n : Nat) (T : Tb) (f : Fi) : D := .n (.ins "Incidence" ["order", "rows"]) false [ordT n T, irows .tup .tup n f]
def incO (n : Nat) (T : Tb) (f : Fi) : D := .n (.ins "Incidence" ["order", "rows"]) true [ordT n T, irows .tup .tup n f]
theorem isF_inc {n : Nat} {T : Tb} {f : Fi} : isF (incD n T f) = true := by
  unfold incD
  simp [isF_ordT, isF_irows]
theorem frz_incO {n : Nat} {T : Tb} {f : Fi} : frz (incO n T f) = incD n T f := by
  unfold incO incD
  rw [frz_n, frzL_cons, frzL_cons, frzL_nil, frz_ordT, frz_isF _ isF_irows]
theorem frz_incD {n : Nat} {T : Tb} {f : Fi} : frz (incD n T f) = incD n T f := frz_isF _ isF_inc
theorem g_irows {k1 k2 : Kd} (h1 : k1 = .lst ∨ k1 = .tup) {n x : Nat} {f : Fi} {P : D → Prop} (hx : x < n) : SO (gIx (irows k1 k2 n f) (.a (.int (x : Int)))) P = P (irow k2 false n f x) := by
  unfold irows
  rcases h1 with rfl | rfl
  · exact so_ixLF hx isF_irow
  · exact so_ixTF hx isF_irow
theorem g_irow {k2 : Kd} (h2 : k2 = .lst ∨ k2 = .tup) {n x y : Nat} {f : Fi} {P : D → Prop} (hy : y < n) : SO (gIx (irow k2 false n f x) (.a (.int (y : Int)))) P = P (.a (.int (f x y))) := by
  unfold irow
  rcases h2 with rfl | rfl
  · exact so_ixLF hy rfl
  · exact so_ixTF hy rfl
theorem t_irows {k1 k2 : Kd} (h1 : k1 = .lst ∨ k1 = .tup) {n : Nat} {f : Fi} {P : D → Prop} : SO (gIsi2 "tuple" "list" (irows k1 k2 n f)) P = P (.a (.bl true)) := by
  unfold irows
  rcases h1 with rfl | rfl <;> simp [gIsi2, tyN, isiT]
theorem t_irow {k2 : Kd} (h2 : k2 = .lst ∨ k2 = .tup) {n x : Nat} {f : Fi} {P : D → Prop} : SO (gIsi2 "tuple" "list" (irow k2 false n f x)) P = P (.a (.bl true)) := by
  unfold irow
  rcases h2 with rfl | rfl <;> simp [gIsi2, tyN, isiT]
theorem l_irows {k1 k2 : Kd} (h1 : k1 = .lst ∨ k1 = .tup) {n : Nat} {f : Fi} {P : D → Prop} : SO (gLen (irows k1 k2 n f)) P = P (.a (.int (n : Int))) := by
  unfold irows
  rcases h1 with rfl | rfl <;> simp
theorem l_irow {k2 : Kd} (h2 : k2 = .lst ∨ k2 = .tup) {n x : Nat} {f : Fi} {P : D → Prop} : SO (gLen (irow k2 false n f x)) P = P (.a (.int (n : Int))) := by
  unfold irow
  rcases h2 with rfl | rfl <;> simp
theorem i_irows {k1 k2 : Kd} (h1 : k1 = .lst ∨ k1 = .tup) {n : Nat} {f : Fi} {P : List D → Prop} (hn : n ≤ 1000) : SO (itemsOf (irows k1 k2 n f)) P = P (vec n (irow k2 false n f)) := by
  unfold irows
  rcases h1 with rfl | rfl <;> simp <;> omega
theorem i_irow {k2 : Kd} (h2 : k2 = .lst ∨ k2 = .tup) {n x : Nat} {f : Fi} {P : List D → Prop} (hn : n ≤ 1000) : SO (itemsOf (irow k2 false n f x)) P = P (vec n fun y => .a (.int (f x y))) := by
  unfold irow
  rcases h2 with rfl | rfl <;> simp <;> omega
theorem is_table_yes {k1 k2 : Kd} (h1 : k1 = .lst ∨ k1 = .tup) (h2 : k2 = .lst ∨ k2 = .tup) {n : Nat} {T : Tb} {f : Fi} (hn : n ≤ 60) (hs : Sup n T f) : F_is_table [ordT n T, irows k1 k2 n f] = .rt (.a (.bl true)) none := by
  apply wf_eq
  unfold F_is_table
  rw [wf_fn]
  unfold B_is_table
  refine wp_step fun K hK => ?_
  simp [isF_ordT, asIns_ord, size_eq']
  refine ⟨nfs, ?_⟩
  apply hK
  clear hK K
  refine wp_step fun K hK => ?_
  simp [isF_irows, t_irows h1, l_irows h1]
  apply hK
  clear hK K
  refine wp_step fun K hK => ?_
  simp [intL_vec]
  refine ⟨by omega, ?_⟩
  refine wp_forK (fun i ρ => ∃ v3 v4 : Option D, ρ = [some (ordT n T), some (irows k1 k2 n f), some (.a (.int (n : Int))), v3, v4]) ⟨none, none, rfl⟩ ?_ ?_
  · intro x d ρ hd h J hJ
    obtain ⟨v3, v4, hρ⟩ := h
    subst hρ
    obtain ⟨hx, rfl⟩ := vec_get' hd
    rw [s_tg1]
    refine ⟨by simp, ?_⟩
    refine wp_step fun K hK => ?_
    simp [isF_irows, isF_irow, g_irows h1 hx, t_irow h2, l_irow h2]
    apply hK
    clear hK K
    simp [intL_vec]
    refine ⟨by omega, ?_⟩
    refine wp_forK (fun i ρ => ∃ v4 : Option D, ρ = [some (ordT n T), some (irows k1 k2 n f), some (.a (.int (n : Int))), some (.a (.int (x : Int))), v4]) ⟨v4, rfl⟩ ?_ ?_
    · intro y d ρ hd h J2 hJ2
      obtain ⟨v4, hρ⟩ := h
      subst hρ
      obtain ⟨hy, rfl⟩ := vec_get' hd
      rw [s_tg1]
      refine ⟨by simp, ?_⟩
      refine wp_step fun K hK => ?_
      simp [isF_irows, isF_irow, g_irows h1 hx, g_irow h2 hy, isint_eq]
      apply hK
      clear hK K
      have hJ' := hJ2 _ ⟨some (.a (.int (y : Int))), rfl⟩
      simp [isF_irows, isF_irow, g_irows h1 hx, g_irow h2 hy]
      by_cases h0 : f x y = 0
      · simp [h0]
        exact hJ'
      · have hq := hs x y hx hy h0
        have hq' : (decide (x = y) || T x y) = true := by simpa using hq
        simp [h0, isF_ordT, asIns_ord, at_most_eq' hx hy, nfm, hq']
        simpa [hq] using hJ'
    · intro ρ h
      obtain ⟨v4, hρ⟩ := h
      subst hρ
      exact hJ _ ⟨_, _, rfl⟩
  · intro ρ h
    obtain ⟨v3, v4, hρ⟩ := h
    subst hρ
    apply hK
    simp [ioOf]
theorem no_order : ¬ ("rows" : Str) = "order" := by decide +kernel
theorem is_table_no {n : Nat} {T : Tb} {f : Fi} {k1 k2 : Kd} (h1 : k1 = .lst ∨ k1 = .tup) (h2 : k2 = .lst ∨ k2 = .tup) (hn : n ≤ 60) (hs : ¬ Sup n T f) : F_is_table [ordT n T, irows k1 k2 n f] = .rt (.a (.bl false)) none := by
  apply wf_eq
  unfold F_is_table
  rw [wf_fn]
  unfold B_is_table
  refine wp_step fun K hK => ?_
  simp [isF_ordT, asIns_ord, size_eq']
  refine ⟨nfs, ?_⟩
  apply hK
  clear hK K
  refine wp_step fun K hK => ?_
  simp [isF_irows, t_irows h1, l_irows h1]
  apply hK
  clear hK K
  refine wp_step fun K hK => ?_
  simp [intL_vec]
  refine ⟨by omega, ?_⟩
  refine wp_forK (fun i ρ => (∀ x y, x < i → y < n → f x y ≠ 0 → x = y ∨ T x y = true) ∧ ∃ v3 v4 : Option D, ρ = [some (ordT n T), some (irows k1 k2 n f), some (.a (.int (n : Int))), v3, v4]) ⟨fun x y hx => absurd hx (Nat.not_lt_zero _), none, none, rfl⟩ ?_ ?_
  · intro x d ρ hd h J hJ
    obtain ⟨hok, v3, v4, hρ⟩ := h
    subst hρ
    obtain ⟨hx, rfl⟩ := vec_get' hd
    rw [s_tg1]
    refine ⟨by simp, ?_⟩
    refine wp_step fun K hK => ?_
    simp [isF_irows, isF_irow, g_irows h1 hx, t_irow h2, l_irow h2]
    apply hK
    clear hK K
    simp [intL_vec]
    refine ⟨by omega, ?_⟩
    refine wp_forK (fun i ρ => (∀ y, y < i → f x y ≠ 0 → x = y ∨ T x y = true) ∧ ∃ v4 : Option D, ρ = [some (ordT n T), some (irows k1 k2 n f), some (.a (.int (n : Int))), some (.a (.int (x : Int))), v4]) ⟨fun y hy => absurd hy (Nat.not_lt_zero _), v4, rfl⟩ ?_ ?_
    · intro y d ρ hd h J2 hJ2
      obtain ⟨hok2, v4, hρ⟩ := h
      subst hρ
      obtain ⟨hy, rfl⟩ := vec_get' hd
      rw [s_tg1]
      refine ⟨by simp, ?_⟩
      refine wp_step fun K hK => ?_
      simp [isF_irows, isF_irow, g_irows h1 hx, g_irow h2 hy, isint_eq]
      apply hK
      clear hK K
      have hJ' := fun (q : f x y ≠ 0 → x = y ∨ T x y = true) => hJ2 [some (ordT n T), some (irows k1 k2 n f), some (.a (.int (n : Int))), some (.a (.int (x : Int))), some (.a (.int (y : Int)))] ⟨fun z hz => by
        rcases Nat.lt_or_ge z y with h | h
        · exact hok2 z h
        · have : z = y := by omega
          subst this
          exact q, some (.a (.int (y : Int))), rfl⟩
      simp [isF_irows, isF_irow, g_irows h1 hx, g_irow h2 hy]
      by_cases h0 : f x y = 0
      · simp [h0]
        exact hJ' fun h => absurd h0 h
      · by_cases hq : x = y ∨ T x y = true
        · have hq' : (decide (x = y) || T x y) = true := by simpa using hq
          simp [h0, isF_ordT, asIns_ord, at_most_eq' hx hy, nfm, hq']
          have := hJ' fun _ => hq
          simpa [hq] using this
        · have hq' : (decide (x = y) || T x y) = false := by
            cases h : (decide (x = y) || T x y) with
            | false => rfl
            | true => exact absurd (by simpa using h) hq
          simp [h0, isF_ordT, asIns_ord, at_most_eq' hx hy, nfm, hq', ioOf]
    · intro ρ h
      obtain ⟨hok2, v4, hρ⟩ := h
      subst hρ
      rw [vec_len] at hok2
      refine hJ _ ⟨fun z y hz hy => ?_, some (.a (.int (x : Int))), v4, rfl⟩
      rcases Nat.lt_or_ge z x with h | h
      · exact hok z y h hy
      · have : z = x := by omega
        subst this
        exact hok2 y hy
  · intro ρ h
    obtain ⟨hok, v3, v4, hρ⟩ := h
    rw [vec_len] at hok
    exact absurd hok hs
theorem is_table_len {n : Nat} {T : Tb} {k : Kd} {xs : List D} (hk : k = .lst ∨ k = .tup) (hf : isFL xs = true) (h : xs.length ≠ n) : F_is_table [ordT n T, .n k false xs] = .rt (.a (.bl false)) none := by
  apply wf_eq
  unfold F_is_table
  rw [wf_fn]
  unfold B_is_table
  have e1 : ∀ P : D → Prop, SO (gIsi2 "tuple" "list" (.n k false xs)) P = P (.a (.bl true)) := fun P => by rcases hk with rfl | rfl <;> simp [gIsi2, tyN, isiT]
  have e2 : ∀ P : D → Prop, SO (gLen (.n k false xs)) P = P (.a (.int (xs.length : Nat))) := fun P => by rcases hk with rfl | rfl <;> simp
  have hne : ¬ (xs.length : Int) = n := by omega
  refine wp_step fun K hK => ?_
  simp [isF_ordT, asIns_ord, size_eq']
  refine ⟨nfs, ?_⟩
  apply hK
  clear hK K
  refine wp_step fun K hK => ?_
  simp [hf, e1, e2, hne, ioOf]
theorem is_table_non {n : Nat} {T : Tb} : F_is_table [ordT n T, .a .non] = .rt (.a (.bl false)) none := by
  apply wf_eq
  unfold F_is_table
  rw [wf_fn]
  unfold B_is_table
  refine wp_step fun K hK => ?_
  simp [isF_ordT, asIns_ord, size_eq']
  refine ⟨nfs, ?_⟩
  apply hK
  clear hK K
  refine wp_step fun K hK => ?_
  simp [gIsi2, tyN, isiT, ioOf]
abbrev newI : D := .n (.ins "Incidence" []) true []
theorem inc_mk {k1 k2 : Kd} (h1 : k1 = .lst ∨ k1 = .tup) (h2 : k2 = .lst ∨ k2 = .tup) {n : Nat} {T : Tb} {f : Fi} (hn : n ≤ 60) (hs : Sup n T f) : F_IncidenceU_initU [.n (.ins "Incidence" []) true [], ordT n T, irows k1 k2 n f] = .rt (.a .non) (some (incO n T f)) := by
  have ht := is_table_yes h1 h2 hn hs
  apply wf_eq
  unfold F_IncidenceU_initU
  rw [wf_fn]
  unfold B_IncidenceU_initU
  have hg : ∀ (x : Nat) (P : D → Prop), SO (gTuple (irow k2 false n f x)) P = P (irow .tup false n f x) := fun x P => by
    unfold irow
    rcases h2 with rfl | rfl
    · rw [o_tupL, isFL_vec fun _ _ => rfl]
      simp
    · rfl
  refine wp_step fun K hK => ?_
  simp [isF_ordT, isF_irows, frz_ordT, frz_isF _ (isF_irows (k1 := k1) (k2 := k2) (n := n) (f := f)), ht]
  apply hK
  clear hK K
  refine wp_step fun K hK => ?_
  simp [isF_ordT]
  apply hK
  clear hK K
  simp [isF_irows, i_irows h1 (show n ≤ 1000 by omega)]
  refine ⟨by omega, ?_⟩
  refine wo_lcK (fun i ys ρ => ys = vec i (irow .tup false n f) ∧ ρ = [some (.n (.ins "Incidence" ["order"]) true [ordT n T]), some (ordT n T), some (irows k1 k2 n f), none]) ⟨rfl, rfl⟩ ?_ ?_
  · intro i d ys ρ hd h J hJ
    obtain ⟨rfl, rfl⟩ := h
    obtain ⟨hi, rfl⟩ := vec_get' hd
    simp [isF_irow, hg]
    exact hJ _ _ ⟨vec_succ.symm, rfl⟩
  · rintro ys ρ ⟨rfl, rfl⟩
    rw [vec_len]
    have hfl : isFL (vec n (irow .tup false n f)) = true := isFL_vec fun _ _ => isF_irow
    simp [hfl, ioOf, no_order]
    rfl
theorem inc_bad {d : D} {n : Nat} {T : Tb} (hf : isF d = true) (h : F_is_table [ordT n T, d] = .rt (.a (.bl false)) none) : ∃ io, F_IncidenceU_initU [.n (.ins "Incidence" []) true [], ordT n T, d] = .ex ⟨"Malformed", []⟩ io := by
  apply wf_exx
  unfold F_IncidenceU_initU
  rw [wf_fn]
  unfold B_IncidenceU_initU
  refine wp_step fun K hK => ?_
  simp [isF_ordT, hf, frz_isF _ hf, frz_ordT, h]
end DC
namespace DC
open PySem L2 DL
/-! ### working with functions on intervals -/
theorem fld_order {n : Nat} {T : Tb} {f : Fi} {P : D → Prop} : SO (gFld "order" (incD n T f)) P = P (ordT n T) := by
  unfold gFld incD
  simp [List.lookup_cons, isF_ordT]
theorem fld_rows {n : Nat} {T : Tb} {f : Fi} {P : D → Prop} : SO (gFld "rows" (incD n T f)) P = P (irows .tup .tup n f) := by
  have hb : (("rows" : Str) == ("order" : Str)) = false := by simpa using no_order
  unfold gFld incD
  simp [List.lookup_cons, hb, isF_irows]
theorem asIns_inc {n : Nat} {T : Tb} {f : Fi} {P : Str → List Str → List D → Prop} : asIns (incD n T f) P = P "Incidence" ["order", "rows"] [ordT n T, irows .tup .tup n f] := rfl
theorem value_eq {n x y : Nat} {T : Tb} {f : Fi} (hx : x < n) (hy : y < n) : F_Incidence_value [incD n T f, .a (.int (x : Int)), .a (.int (y : Int))] = .rt (.a (.int (f x y))) none := by
  apply wf_eq
  unfold F_Incidence_value
  rw [wf_fn]
  unfold B_Incidence_value
  simp [ioOf, isF_inc, fld_rows, g_irows (.inr rfl) hx, g_irow (.inr rfl) hy]
def oneF : Fi := fun x y => if x = y then 1 else 0
theorem oneF_sup {n : Nat} {T : Tb} : Sup n T oneF := fun x y _ _ h => by
  unfold oneF at h
  by_cases e : x = y
  · exact .inl e
  · rw [if_neg e] at h; exact absurd rfl h
/-- rows given as lists -/
theorem frz_irowL {n : Nat} {f : Fi} : frzL (vec n (irow .lst true n f)) = vec n (irow .lst false n f) := frzL_rows fun x _ => by
  unfold irow
  rw [frz_n, frzL_rows (g := fun y => .a (.int (f x y))) fun _ _ => rfl]
theorem intsOf_vec {n : Nat} {g : Nat → Int} : intsOf (vec n fun i => .a (.int (g i))) = some ((List.range n).map g) := by
  unfold vec
  generalize List.range n = l
  induction l with
  | nil => rfl
  | cons x l ih => rw [List.map_cons, List.map_cons]; unfold intsOf; rw [ih]; rfl
theorem o_sum {o : Bool} {n : Nat} {g : Nat → Int} {P : D → Prop} : SO (gSum (.n .lst o (vec n fun i => .a (.int (g i))))) P = P (.a (.int ((List.range n).map g).sum)) := by
  unfold gSum
  dsimp only
  rw [intsOf_vec]
  rfl
def mulF (n : Nat) (f g : Fi) : Fi := fun x y => ((List.range n).map fun z => f x z * g z y).sum
theorem sum_zero {g : Nat → Int} : ∀ {l : List Nat}, (∀ z ∈ l, g z = 0) → (l.map g).sum = 0
  | [], _ => rfl
  | z :: l, h => by
    rw [List.map_cons, List.sum_cons, h z (by simp), sum_zero fun w hw => h w (List.mem_cons_of_mem _ hw)]
    rfl
theorem mulF_sup {n : Nat} {T : Tb} {f g : Fi} (tT : Tr n T) (hf : Sup n T f) (hg : Sup n T g) : Sup n T (mulF n f g) := fun x y hx hy h => by
  false_or_by_contra
  rename_i hno
  apply h
  unfold mulF
  apply sum_zero
  intro z hz
  have hz := List.mem_range.mp hz
  by_cases h1 : f x z = 0
  · rw [h1, Int.zero_mul]
  · by_cases h2 : g z y = 0
    · rw [h2, Int.mul_zero]
    · exact absurd (leq_trans tT hx hz hy (hf x z hx hz h1) (hg z y hz hy h2)) hno
theorem check_same_eq {n : Nat} {T : Tb} {f g : Fi} : F_check_same [incD n T f, incD n T g] = .rt (.a .non) none := by
  apply wf_eq
  unfold F_check_same
  rw [wf_fn]
  unfold B_check_same
  have hown : ∀ P : D → Prop, SO (gOwn "Order" F_OrderU_eqU true (ordT n T) (ordT n T)) P = P (.a (.bl false)) := fun P => by
    unfold ordT ordD
    rw [so_own (b := true) (io := none) (by simp) (by simp) ordeq_eq]
    rfl
  simp [isF_inc, fld_order, hown, ioOf]
theorem check_same_no {n m : Nat} {T S : Tb} {f g : Fi} (h : n ≠ m) : ∃ io, F_check_same [incD n T f, incD m S g] = .ex ⟨"Malformed", []⟩ io := by
  apply wf_exx
  unfold F_check_same
  rw [wf_fn]
  unfold B_check_same
  have hown : ∀ P : D → Prop, SO (gOwn "Order" F_OrderU_eqU true (ordT n T) (ordT m S)) P = P (.a (.bl true)) := fun P => by
    have := ordeq_gen (n := n) (m := m) (T := T) (S := S)
    rw [decide_eq_false fun q => h q.1] at this
    unfold ordT ordD at this ⊢
    rw [so_own (b := false) (io := none) (by simp) (by simp) this]
    rfl
  simp [isF_inc, fld_order, hown]
def Bnd (n : Nat) (f : Fi) : Prop := ∀ x y, x < n → y < n → (f x y).natAbs < 1000000
theorem mulOk_b {a b : Int} (ha : a.natAbs < 1000000) (hb : b.natAbs < 1000000) : mulOk a b = true := mulOk_of (bits_c (n := 20) (by omega)) (bits_c (n := 20) (by omega)) (by decide)
theorem mul_eq {n : Nat} {T : Tb} {f g : Fi} (hn : n ≤ 60) (tT : Tr n T) (hf : Sup n T f) (hg : Sup n T g) (bf : Bnd n f) (bg : Bnd n g) : F_IncidenceU_mulU [incD n T f, incD n T g] = .rt (incO n T (mulF n f g)) none := by
  apply wf_eq
  unfold F_IncidenceU_mulU
  rw [wf_fn]
  unfold B_IncidenceU_mulU
  refine wp_step fun K hK => ?_
  simp [isF_inc, frz_incD, check_same_eq]
  apply hK
  clear hK K
  refine wp_step fun K hK => ?_
  simp [isF_inc, fld_rows, l_irows (k1 := .tup) (.inr rfl)]
  apply hK
  clear hK K
  refine wp_step fun K hK => ?_
  simp
  apply hK
  clear hK K
  refine wp_cutK (fun ρ => ∃ v4 v5 v6 : Option D, ρ = [some (incD n T f), some (incD n T g), some (.a (.int (n : Int))), some (irows .lst .lst n (mulF n f g)), v4, v5, v6, none]) (fun K hK => ?_) ?_
  · simp [intL_vec]
    refine ⟨by omega, ?_⟩
    refine wp_forK (fun x ρ => ∃ v4 v5 v6 : Option D, ρ = [some (incD n T f), some (incD n T g), some (.a (.int (n : Int))), some (.n .lst true (vec x (irow .lst false n (mulF n f g)))), v4, v5, v6, none]) ⟨none, none, none, rfl⟩ ?_ ?_
    · intro x d ρ hd h J hJ
      obtain ⟨v4, v5, v6, hρ⟩ := h
      subst hρ
      obtain ⟨hx, rfl⟩ := vec_get' hd
      rw [s_tg1]
      refine ⟨by simp, ?_⟩
      refine wp_step fun K hK => ?_
      simp
      apply hK
      clear hK K
      refine wp_cutK (fun ρ => ∃ v6 : Option D, ρ = [some (incD n T f), some (incD n T g), some (.a (.int (n : Int))), some (.n .lst true (vec x (irow .lst false n (mulF n f g)))), some (.a (.int (x : Int))), some (irow .lst false n (mulF n f g) x), v6, none]) (fun K hK => ?_) ?_
      · simp [intL_vec]
        refine ⟨by omega, ?_⟩
        refine wp_forK (fun y ρ => ∃ v6 : Option D, ρ = [some (incD n T f), some (incD n T g), some (.a (.int (n : Int))), some (.n .lst true (vec x (irow .lst false n (mulF n f g)))), some (.a (.int (x : Int))), some (.n .lst true (vec y fun y => .a (.int (mulF n f g x y)))), v6, none]) ⟨v6, rfl⟩ ?_ ?_
        · intro y d ρ hd h J2 hJ2
          obtain ⟨v6, hρ⟩ := h
          subst hρ
          obtain ⟨hy, rfl⟩ := vec_get' hd
          have hJ' := hJ2 _ ⟨some (.a (.int (y : Int))), rfl⟩
          rw [vec_succ] at hJ'
          simp [intL_vec]
          refine ⟨by omega, ?_⟩
          rw [lcL_run (fun _ => true) (fun d => .a (.int (f x (natOf d) * g (natOf d) y)))]
          · rw [wo_ok, vec_all (fv := fun z => .a (.int (f x z * g z y))) (fun z _ => rfl)]
            simp [o_sum]
            refine ⟨by omega, ?_⟩
            exact hJ'
          · intro d hd
            obtain ⟨z, hz, rfl⟩ := mem_vec hd
            have hm := mulOk_b (bf x z hx hz) (bg z y hz hy)
            simp [isF_inc, fld_rows, g_irows (.inr rfl) hx, g_irow (.inr rfl) hz, g_irows (.inr rfl) hz, g_irow (.inr rfl) hy, hm]
        · intro ρ h
          obtain ⟨v6, hρ⟩ := h
          subst hρ
          rw [vec_len]
          have hz : frzL (vec n fun y => D.a (.int (mulF n f g x y))) = vec n fun y => .a (.int (mulF n f g x y)) := frzL_rows fun _ _ => rfl
          simp [hz]
          exact hK _ ⟨v6, rfl⟩
      · intro ρ h
        obtain ⟨v6, hρ⟩ := h
        subst hρ
        have hJ' := hJ _ ⟨some (.a (.int (x : Int))), some (irow .lst false n (mulF n f g) x), v6, rfl⟩
        rw [vec_succ] at hJ'
        simp [isF_irow]
        refine ⟨by omega, ?_⟩
        exact hJ'
    · intro ρ h
      obtain ⟨v4, v5, v6, hρ⟩ := h
      subst hρ
      rw [vec_len]
      have hz : frzL (vec n (irow .lst false n (mulF n f g))) = vec n (irow .lst false n (mulF n f g)) := frzL_isFL _ (isFL_vec fun _ _ => isF_irow)
      simp [hz]
      exact hK _ ⟨v4, v5, v6, rfl⟩
  · intro ρ h
    obtain ⟨v4, v5, v6, hρ⟩ := h
    subst hρ
    have hmk := inc_mk (k1 := .lst) (k2 := .lst) (.inl rfl) (.inl rfl) hn (mulF_sup tT hf hg)
    simp [isF_inc, fld_order, isF_irows, frz_ordT, frz_isF _ (isF_irows (k1 := .lst) (k2 := .lst) (n := n) (f := mulF n f g)), hmk, ioOf]
end DC
namespace DC
open PySem L2 DL
/-- [f for x in s], s told by places -/
theorem w_lcV {E : Exn → DL.Env → Prop} {P : D → DL.Env → Prop} {ρ : DL.Env} {v n : Nat} {src : DL.Env → Out (List D)} {f : DL.Env → Out D} {g : Nat → D} (fv : Nat → D) (hv : ∀ d, ρ[v]? = some (some d) → isF d = true) (hl : v < ρ.length) (hsrc : src ρ = .ok (vec n g) ρ) (hn : n ≤ 1000000)
    (hf : ∀ i, i < n → f (ρ.set v (some (g i))) = .ok (fv i) (ρ.set v (some (g i)))) (k : P (.lst true (vec n fv)) ρ) : WO E P (dLc [v] src (tg1 v) dYes f ρ) := by
  rw [w_Lc, hsrc]
  refine ⟨by rw [vec_len]; exact hn, ?_⟩
  have hw : wipeE ρ [v] = ρ.set v none := rfl
  refine wo_lcK (fun i ys ρ' => ys = vec i fv ∧ ρ' = ρ.set v none) ⟨rfl, rfl⟩ ?_ ?_
  · intro i d ys ρ' hd h J hJ
    obtain ⟨rfl, rfl⟩ := h
    obtain ⟨hi, rfl⟩ := vec_get' hd
    rw [s_tg1]
    refine ⟨by rw [List.length_set]; exact hl, ?_⟩
    rw [List.set_set]
    show WO NoE _ (dYes _)
    rw [w_Yes]
    rw [if_pos rfl, hf i hi, wo_ok]
    refine hJ _ _ ⟨vec_succ.symm, by simp [wipeE]⟩
  · rintro ys ρ' ⟨rfl, rfl⟩
    rw [vec_len]
    have : wipeE (ρ.set v none) [v] = wipeE ρ [v] := by simp [wipeE]
    rw [this, back_same hv]
    exact k
/-- the same in two turns -/
theorem w_mat {E : Exn → DL.Env → Prop} {P : D → DL.Env → Prop} {ρ : DL.Env} {v1 v2 n : Nat} {m : Nat → Nat} {s1 s2 : DL.Env → Out (List D)} {f : DL.Env → Out D} {g1 : Nat → D} {g2 : Nat → Nat → D} (c : Nat → Nat → D) (h1 : ∀ d, ρ[v1]? = some (some d) → isF d = true) (h2 : ∀ d, ρ[v2]? = some (some d) → isF d = true) (l1 : v1 < ρ.length) (l2 : v2 < ρ.length) (n12 : v1 ≠ v2)
    (hs1 : s1 ρ = .ok (vec n g1) ρ) (hs2 : ∀ x, x < n → s2 (ρ.set v1 (some (g1 x))) = .ok (vec (m x) (g2 x)) (ρ.set v1 (some (g1 x)))) (hn : n ≤ 1000000) (hm : ∀ x, x < n → m x ≤ 1000000)
    (hf : ∀ x y, x < n → y < m x → f ((ρ.set v1 (some (g1 x))).set v2 (some (g2 x y))) = .ok (c x y) ((ρ.set v1 (some (g1 x))).set v2 (some (g2 x y))))
    (k : P (.lst true (vec n fun x => .lst true (vec (m x) (c x)))) ρ) : WO E P (dLc [v1] s1 (tg1 v1) dYes (dLc [v2] s2 (tg1 v2) dYes f) ρ) := by
  refine w_lcV (fun x => .lst true (vec (m x) (c x))) h1 l1 hs1 hn (fun x hx => ?_) k
  apply out_eq
  exact w_lcV (c x) (fun d h => by rw [get_set_ne n12] at h; exact h2 d h) (by simpa using l2) (hs2 x hx) (hm x hx) (fun y hy => hf x y hx hy) ⟨rfl, rfl⟩
theorem src_rng {ρ : DL.Env} {f : DL.Env → Out D} {n : Nat} (h : f ρ = .ok (.a (.int (n : Int))) ρ) (hn : n ≤ 1000) : dRng1 f ρ = .ok (vec n fun i => .a (.int (i : Int))) ρ := by
  apply out_eq
  rw [w_Rng1, h]
  simp [intL_vec]
  omega
theorem var_eq {ρ : DL.Env} {i : Nat} {d : D} (h : ρ[i]? = some (some d)) (hf : isF d = true) : dVar i ρ = .ok d ρ := by
  apply out_eq
  simp [h, hf]
theorem src_vec {ρ : DL.Env} {k : Kd} (hk : k = .lst ∨ k = .tup) {f : DL.Env → Out D} {n : Nat} {g : Nat → D} (h : f ρ = .ok (.n k false (vec n g)) ρ) (hf : ∀ i, i < n → isF (g i) = true) (hn : n ≤ 1000000) : dIter f ρ = .ok (vec n g) ρ := by
  apply out_eq
  rw [w_Iter, h]
  rcases hk with rfl | rfl <;> simp [isFL_vec hf] <;> omega
/-! ### the other functions on intervals -/
theorem frz_irowsL {n : Nat} {f : Fi} : frz (.n .lst true (vec n (irow .lst true n f))) = irows .lst .lst n f := by
  rw [frz_n, frz_irowL]; rfl
theorem delta_eq {n : Nat} {T : Tb} (hn : n ≤ 60) : F_delta [ordT n T] = .rt (incO n T oneF) none := by
  apply wf_eq
  unfold F_delta
  rw [wf_fn]
  unfold B_delta
  refine wp_step fun K hK => ?_
  simp [isF_ordT, asIns_ord, size_eq', nfs]
  apply hK
  clear hK K
  have hmk := inc_mk (k1 := .lst) (k2 := .lst) (.inl rfl) (.inl rfl) hn (oneF_sup (n := n) (T := T))
  simp [-w_Lc, isF_ordT]
  refine w_mat (fun x y => .a (.int (oneF x y))) (fun d h => by simp at h) (fun d h => by simp at h) (by simp) (by simp) (by decide) (src_rng (var_eq rfl rfl) (by omega)) (fun x hx => src_rng (var_eq rfl rfl) (by omega)) (by omega) (fun _ _ => by omega) (fun x y hx hy => ?_) ?_
  · apply out_eq
    by_cases h : x = y
    · subst h; simp [oneF, gInt]
    · have : ¬ (x : Int) = y := by omega
      simp [oneF, gInt, h, this]
  · have := frz_irowsL (n := n) (f := oneF)
    simp only [frz_n] at this
    simp [frz_ordT]
    erw [this]
    rw [hmk]
    simp [ioOf]
theorem add_sup {n : Nat} {T : Tb} {f g : Fi} (hf : Sup n T f) (hg : Sup n T g) : Sup n T (fun x y => f x y + g x y) := fun x y hx hy h => by
  by_cases h1 : f x y = 0
  · by_cases h2 : g x y = 0
    · exact absurd (show f x y + g x y = 0 by omega) h
    · exact hg x y hx hy h2
  · exact hf x y hx hy h1
theorem mk_rows {n : Nat} {T : Tb} {f : Fi} (hn : n ≤ 60) (hf : Sup n T f) : F_IncidenceU_initU [.n (.ins "Incidence" []) true [], ordT n T, frz (.n .lst true (vec n fun x => .lst true (vec n fun y => .a (.int (f x y)))))] = .rt (.a .non) (some (incO n T f)) := by
  have := frz_irowsL (n := n) (f := f)
  erw [this]
  exact inc_mk (.inl rfl) (.inl rfl) hn hf
theorem add_eq {n : Nat} {T : Tb} {f g : Fi} (hn : n ≤ 60) (hf : Sup n T f) (hg : Sup n T g) : F_IncidenceU_addU [incD n T f, incD n T g] = .rt (incO n T fun x y => f x y + g x y) none := by
  apply wf_eq
  unfold F_IncidenceU_addU
  rw [wf_fn]
  unfold B_IncidenceU_addU
  refine wp_step fun K hK => ?_
  simp [isF_inc, frz_incD, check_same_eq]
  apply hK
  clear hK K
  refine wp_step fun K hK => ?_
  simp [isF_inc, fld_rows, l_irows (k1 := .tup) (.inr rfl)]
  apply hK
  clear hK K
  have hmk := mk_rows hn (add_sup hf hg)
  simp [-w_Lc, isF_inc, fld_order]
  refine w_mat (fun x y => .a (.int (f x y + g x y))) (fun d h => by simp at h) (fun d h => by simp at h) (by simp) (by simp) (by decide) (src_rng (var_eq rfl rfl) (by omega)) (fun x hx => src_rng (var_eq rfl rfl) (by omega)) (by omega) (fun _ _ => by omega) (fun x y hx hy => ?_) ?_
  · apply out_eq
    simp [isF_inc, fld_rows, g_irows (.inr rfl) hx, g_irow (.inr rfl) hy]
  · rw [frz_n] at hmk
    simp [frz_ordT, hmk, ioOf]
theorem neg_sup {n : Nat} {T : Tb} {f : Fi} (hf : Sup n T f) : Sup n T (fun x y => -f x y) := fun x y hx hy h => hf x y hx hy fun e => h (by show -f x y = 0; rw [e]; rfl)
theorem neg_eq {n : Nat} {T : Tb} {f : Fi} (hn : n ≤ 60) (hf : Sup n T f) : F_IncidenceU_negU [incD n T f] = .rt (incO n T fun x y => -f x y) none := by
  apply wf_eq
  unfold F_IncidenceU_negU
  rw [wf_fn]
  unfold B_IncidenceU_negU
  have hmk := mk_rows hn (neg_sup hf)
  simp [-w_Lc, isF_inc, fld_order]
  refine w_mat (fun x y => .a (.int (-f x y))) (n := n) (g1 := irow .tup false n f) (g2 := fun x y => .a (.int (f x y))) (m := fun _ => n) (fun d h => by simp at h) (fun d h => by simp at h) (by simp) (by simp) (by decide) (src_vec (.inr rfl) (out_eq (by simp [isF_inc, fld_rows, irows])) (fun _ _ => isF_irow) (by omega)) (fun x hx => src_vec (.inr rfl) (var_eq rfl isF_irow) (fun _ _ => rfl) (by omega)) (by omega) (fun _ _ => by omega) (fun x y hx hy => ?_) ?_
  · apply out_eq
    simp
  · rw [frz_n] at hmk
    simp [frz_ordT, hmk, ioOf]
theorem sub_eq {n : Nat} {T : Tb} {f g : Fi} (hn : n ≤ 60) (hf : Sup n T f) (hg : Sup n T g) : F_IncidenceU_subU [incD n T f, incD n T g] = .rt (incO n T fun x y => f x y - g x y) none := by
  apply wf_eq
  unfold F_IncidenceU_subU
  rw [wf_fn]
  unfold B_IncidenceU_subU
  have h1 := neg_eq hn hg
  have h2 := add_eq hn hf (neg_sup hg)
  unfold incD at h1 h2
  simp [isF_inc, asIns_inc, isF_ordT, isF_irows, h1]
  rw [show frz (incO n T fun x y => -g x y) = incD n T (fun x y => -g x y) from frz_incO]
  simp [asIns_inc, isF_ordT, isF_irows, h2, ioOf]
  congr 1
theorem scale_sup {n : Nat} {T : Tb} {f : Fi} {k : Int} (hf : Sup n T f) : Sup n T (fun x y => k * f x y) := fun x y hx hy h => hf x y hx hy fun e => h (by show k * f x y = 0; rw [e]; simp)
theorem scaled_eq {n : Nat} {T : Tb} {f : Fi} {k : Int} (hn : n ≤ 60) (hf : Sup n T f) (bf : Bnd n f) (bk : k.natAbs < 1000000) : F_Incidence_scaled [incD n T f, .a (.int k)] = .rt (incO n T fun x y => k * f x y) none := by
  apply wf_eq
  unfold F_Incidence_scaled
  rw [wf_fn]
  unfold B_Incidence_scaled
  have hmk := mk_rows hn (scale_sup (k := k) hf)
  simp [-w_Lc, isF_inc, fld_order]
  refine w_mat (fun x y => .a (.int (k * f x y))) (n := n) (g1 := irow .tup false n f) (g2 := fun x y => .a (.int (f x y))) (m := fun _ => n) (fun d h => by simp at h) (fun d h => by simp at h) (by simp) (by simp) (by decide) (src_vec (.inr rfl) (out_eq (by simp [isF_inc, fld_rows, irows])) (fun _ _ => isF_irow) (by omega)) (fun x hx => src_vec (.inr rfl) (var_eq rfl isF_irow) (fun _ _ => rfl) (by omega)) (by omega) (fun _ _ => by omega) (fun x y hx hy => ?_) ?_
  · apply out_eq
    simp [mulOk_b bk (bf x y hx hy)]
  · rw [frz_n] at hmk
    simp [frz_ordT, hmk, ioOf]
def powF (n : Nat) (f : Fi) : Nat → Fi
  | 0 => oneF
  | k + 1 => mulF n (powF n f k) f
theorem powF_sup {n : Nat} {T : Tb} {f : Fi} (tT : Tr n T) (hf : Sup n T f) : ∀ k, Sup n T (powF n f k)
  | 0 => oneF_sup
  | k + 1 => mulF_sup tT (powF_sup tT hf k) hf
theorem power_eq {n k : Nat} {T : Tb} {f : Fi} (hn : n ≤ 60) (hk : k ≤ 1000) (tT : Tr n T) (hf : Sup n T f) (bf : Bnd n f) (hb : ∀ j, j < k → Bnd n (powF n f j)) : F_Incidence_power [incD n T f, .a (.int (k : Int))] = .rt (incD n T (powF n f k)) none := by
  apply wf_eq
  unfold F_Incidence_power
  rw [wf_fn]
  unfold B_Incidence_power
  refine wp_step fun K hK => ?_
  simp [isF_inc, fld_order, frz_ordT, delta_eq hn]
  apply hK
  clear hK K
  refine wp_cutK (fun ρ => ∃ (v3 : Option D), ρ = [some (incD n T f), some (.a (.int (k : Int))), some (incD n T (powF n f k)), v3]) (fun K hK => ?_) ?_
  · simp [intL_vec]
    refine ⟨by omega, ?_⟩
    refine wp_forK (fun i ρ => ∃ (v3 : Option D), ρ = [some (incD n T f), some (.a (.int (k : Int))), some (incD n T (powF n f i)), v3]) ⟨none, by rw [frz_incO]; rfl⟩ ?_ ?_
    · intro i d ρ hd h J hJ
      obtain ⟨v3, hρ⟩ := h
      subst hρ
      obtain ⟨hi, rfl⟩ := vec_get' hd
      have hm := mul_eq hn tT (powF_sup tT hf i) hf (hb i hi) bf
      unfold incD at hm
      simp [isF_inc, asIns_inc, isF_ordT, isF_irows, hm, frz_incO]
      exact hJ _ ⟨_, rfl⟩
    · intro ρ h
      obtain ⟨v3, hρ⟩ := h
      subst hρ
      rw [vec_len]
      exact hK _ ⟨_, rfl⟩
  · intro ρ h
    obtain ⟨v3, hρ⟩ := h
    subst hρ
    simp [isF_inc, ioOf]
theorem o_eqM {n : Nat} {f g : Fi} {P : D → Prop} {k1 k2 : Kd} (h1 : k1 = .lst ∨ k1 = .tup) (h2 : k2 = .lst ∨ k2 = .tup) : SO (gEq (irows k1 k2 n f) (irows k1 k2 n g)) P = P (.a (.bl (decide (∀ x, x < n → ∀ y, y < n → f x y = g x y)))) := by
  have hp : ∀ f : Fi, pD 60 (irows k1 k2 n f) = true := fun f => by
    unfold irows irow
    rcases h1 with rfl | rfl <;> rcases h2 with rfl | rfl <;> exact pDL_vec fun _ _ => pDL_vec fun _ _ => rfl
  rw [so_eqP (hp f) (hp g) (fun x y h => by cases h.1)]
  congr 3
  have e : eqD (irows k1 k2 n f) (irows k1 k2 n g) = (List.range n).all fun x => (List.range n).all fun y => decide (f x y = g x y) := by
    unfold irows irow
    have h3 : ∀ x, eqD (.n k2 false (vec n fun y => .a (.int (f x y)))) (.n k2 false (vec n fun y => .a (.int (g x y)))) = (List.range n).all fun y => decide (f x y = g x y) := fun x => by
      rcases h2 with rfl | rfl <;> simp [eqD, eqDL_vec, eqA] <;> exact List.all_congr rfl fun _ => by rw [Bool.eq_iff_iff]; simp
    rcases h1 with rfl | rfl <;> (show eqDL _ _ = _; rw [eqDL_vec]; exact List.all_congr rfl fun x => h3 x)
  rw [e, Bool.eq_iff_iff]
  simp
theorem inceq_eq {n : Nat} {T : Tb} {f g : Fi} : F_IncidenceU_eqU [incD n T f, incD n T g] = .rt (.a (.bl (decide (∀ x, x < n → ∀ y, y < n → f x y = g x y)))) none := by
  apply wf_eq
  unfold F_IncidenceU_eqU
  rw [wf_fn]
  unfold B_IncidenceU_eqU
  have h1 : ∀ P : D → Prop, SO (gIsiA "Incidence" (incD n T g)) P = P (.a (.bl true)) := fun P => by
    unfold incD; simp
  have hown : ∀ P : D → Prop, SO (gOr (gOwn "Order" F_OrderU_eqU false) (gOr (gOwnT "Order" F_OrderU_eqU) gEq) (ordT n T) (ordT n T)) P = P (.a (.bl true)) := fun P => by
    unfold ordT ordD
    exact so_ownA (b := true) (io := none) (by simp) (by simp) ordeq_eq
  simp [isF_inc, h1, fld_order, fld_rows, hown, o_eqM (k1 := .tup) (k2 := .tup) (.inr rfl) (.inr rfl), ioOf]
theorem inceq_int {n : Nat} {T : Tb} {f : Fi} {i : Int} : F_IncidenceU_eqU [incD n T f, .a (.int i)] = .rt (.a (.bl false)) none := by
  apply wf_eq
  unfold F_IncidenceU_eqU
  rw [wf_fn]
  unfold B_IncidenceU_eqU
  have h1 : ∀ P : D → Prop, SO (gIsiA "Incidence" (.a (.int i))) P = P (.a (.bl false)) := fun P => o_isiA (t := "int") rfl
  simp [isF_inc, h1, ioOf]
end DC
namespace DC
open PySem L2 DL
/-! ### the laws' own functions on intervals -/
def rowL (n : Nat) (r : Nat → Int) : D := .n .lst false (vec n fun y => .a (.int (r y)))
theorem isF_rowL {n : Nat} {r : Nat → Int} : isF (rowL n r) = true := by
  unfold rowL
  rw [isF_n, isFL_vec fun _ _ => rfl]
  rfl
structure RowOk (n : Nat) (T : Tb) (x : Nat) (r : Nat → Int) : Prop where
  bd : ∀ y, y < n → (r y).natAbs ≤ 2
  su : ∀ y, y < n → r y ≠ 0 → x = y ∨ T x y = true
  dg : x < n → r x = 1 ∨ r x = -1
theorem law_function_wf {st : D} (h : Nms st) {n : Nat} {T : Tb} (hn : n ≤ 60) : WF NoE (fun d io => ∃ f : Fi, d = irows .lst .lst n f ∧ (∀ x, x < n → RowOk n T x (f x)) ∧ ∃ st', io = some st' ∧ Nms st') (F_law_function [ordT n T, st]) := by
  unfold F_law_function
  rw [wf_fn]
  unfold B_law_function
  refine wp_step fun K hK => ?_
  simp [isF_ordT, asIns_ord, size_eq', nfs]
  apply hK
  clear hK K
  refine wp_step fun K hK => ?_
  simp
  apply hK
  clear hK K
  refine wp_cutK (fun ρ => ∃ (st : D) (f : Fi) (v4 v5 v6 v7 : Option D), ρ = [some (ordT n T), some (st), some (.a (.int (n : Int))), some (irows .lst .lst n f), v4, v5, v6, v7] ∧ ((∀ x, x < n → RowOk n T x (f x)) ∧ Nms st)) (fun K hK => ?_) ?_
  · simp [intL_vec]
    refine ⟨by omega, ?_⟩
    refine wp_forK (fun i ρ => ∃ (st : D) (f : Fi) (v4 v5 v6 v7 : Option D), ρ = [some (ordT n T), some (st), some (.a (.int (n : Int))), some (.n .lst true (vec i fun x => rowL n (f x))), v4, v5, v6, v7] ∧ ((∀ x, x < i → RowOk n T x (f x)) ∧ Nms st)) ⟨st, fun _ _ => 0, none, none, none, none, rfl, fun x hx => absurd hx (Nat.not_lt_zero _), h⟩ ?_ ?_
    · clear h st
      intro i d ρ hd h J hJ
      obtain ⟨st, f, v4, v5, v6, v7, hρ, hok, h⟩ := h
      subst hρ
      obtain ⟨hi, rfl⟩ := vec_get' hd
      rw [s_tg1]
      refine ⟨by simp, ?_⟩
      refine wp_step fun K hK => ?_
      simp
      apply hK
      clear hK K
      refine wp_cutK (fun ρ => ∃ (st : D) (r : Nat → Int) (v6 v7 : Option D), ρ = [some (ordT n T), some (st), some (.a (.int (n : Int))), some (.n .lst true (vec i fun x => rowL n (f x))), some (.a (.int (i : Int))), some (rowL n r), v6, v7] ∧ (RowOk n T i r ∧ Nms st)) (fun K hK => ?_) ?_
      · simp [intL_vec]
        refine ⟨by omega, ?_⟩
        refine wp_forK (fun j ρ => ∃ (st : D) (r : Nat → Int) (v6 v7 : Option D), ρ = [some (ordT n T), some (st), some (.a (.int (n : Int))), some (.n .lst true (vec i fun x => rowL n (f x))), some (.a (.int (i : Int))), some (.n .lst true (vec j fun y => .a (.int (r y)))), v6, v7] ∧ ((∀ y, y < j → (r y).natAbs ≤ 2 ∧ (r y ≠ 0 → i = y ∨ T i y = true) ∧ (i = y → r y = 1 ∨ r y = -1)) ∧ Nms st)) ⟨st, fun _ => 0, _, _, rfl, fun x hx => absurd hx (Nat.not_lt_zero _), h⟩ ?_ ?_
        · clear h hok
          intro j d ρ hd h J2 hJ2
          obtain ⟨st, r, v6, v7, hρ, hok, h⟩ := h
          subst hρ
          obtain ⟨hj, rfl⟩ := vec_get' hd
          rw [s_tg1]
          refine ⟨by simp, ?_⟩
          refine wp_cutK (fun ρ => ∃ (st : D) (v : Int), ρ = [some (ordT n T), some (st), some (.a (.int (n : Int))), some (.n .lst true (vec i fun x => rowL n (f x))), some (.a (.int (i : Int))), some (.n .lst true (vec j fun y => .a (.int (r y)))), some (.a (.int (j : Int))), some (.a (.int v))] ∧ ((v.natAbs ≤ 2) ∧ Nms st)) (fun K hK => ?_) ?_
          · simp
            refine (next_wf h 5 (by decide)).mono ?_
            rintro d io ⟨v, rfl, v0, v1, st', rfl, h6⟩
            simp
            exact hK _ ⟨st', v - 2, rfl, by omega, h6⟩
          · clear h
            intro ρ h
            obtain ⟨st, v, hρ, hv, h⟩ := h
            subst hρ
            refine wp_cutK (fun ρ => ∃ (v : Int), ρ = [some (ordT n T), some (st), some (.a (.int (n : Int))), some (.n .lst true (vec i fun x => rowL n (f x))), some (.a (.int (i : Int))), some (.n .lst true (vec j fun y => .a (.int (r y)))), some (.a (.int (j : Int))), some (.a (.int v))] ∧ (v.natAbs ≤ 2 ∧ (i = j → v = 1 ∨ v = -1))) (fun K hK => ?_) ?_
            · by_cases e : i = j
              · subst e
                have hm : mulOk 2 (v % 2) = true := mulOk_b (by decide) (by omega)
                simp [hm]
                exact hK _ ⟨1 - 2 * (v % 2), rfl, by omega, fun _ => by omega⟩
              · have e' : ¬ (i : Int) = j := by omega
                simp [e']
                exact hK _ ⟨v, rfl, hv, fun h => absurd h e⟩
            · clear hv v
              intro ρ h
              obtain ⟨v, hρ, hv, hd⟩ := h
              subst hρ
              refine wp_cutK (fun ρ => ∃ (v : Int), ρ = [some (ordT n T), some (st), some (.a (.int (n : Int))), some (.n .lst true (vec i fun x => rowL n (f x))), some (.a (.int (i : Int))), some (.n .lst true (vec j fun y => .a (.int (r y)))), some (.a (.int (j : Int))), some (.a (.int v))] ∧ (v.natAbs ≤ 2 ∧ (v ≠ 0 → i = j ∨ T i j = true) ∧ (i = j → v = 1 ∨ v = -1))) (fun K hK => ?_) ?_
              · simp [isF_ordT, asIns_ord, at_most_eq' hi hj, nfm]
                split
                · rename_i hq
                  exact hK _ ⟨v, rfl, hv, fun _ => hq, hd⟩
                · rename_i hq
                  exact hK _ ⟨0, rfl, by decide, fun h => absurd rfl h, fun h => absurd (.inl h) hq⟩
              · clear hv hd v
                intro ρ h3
                obtain ⟨v, hρ, hv, hs, hd⟩ := h3
                subst hρ
                have hJ' := hJ2 _ ⟨st, extf r j v, some (.a (.int (j : Int))), some (.a (.int v)), rfl, fun y hy => ?_, h⟩
                · rw [← extf_vec (g := fun z => D.a (.int z))] at hJ'
                  simp
                  refine ⟨by omega, ?_⟩
                  exact hJ'
                · unfold extf
                  split
                  · rename_i hlt
                    exact hok y hlt
                  · have : y = j := by omega
                    subst this
                    exact ⟨hv, hs, hd⟩
        · clear h hok
          intro ρ h
          obtain ⟨st, r, v6, v7, hρ, hok, h⟩ := h
          subst hρ
          rw [vec_len] at hok ⊢
          have hz : frzL (vec n fun y => D.a (.int (r y))) = vec n fun y => .a (.int (r y)) := frzL_rows fun _ _ => rfl
          simp [hz]
          exact hK _ ⟨st, r, _, _, rfl, ⟨fun y hy => (hok y hy).1, fun y hy => (hok y hy).2.1, fun hx => (hok i hx).2.2 rfl⟩, h⟩
      · clear h
        intro ρ h2
        obtain ⟨st, r, v6, v7, hρ, hr, h⟩ := h2
        subst hρ
        have hJ' := hJ _ ⟨st, extf f i r, some (.a (.int (i : Int))), some (rowL n r), v6, v7, rfl, ?_, h⟩
        · rw [← extf_vec (g := rowL n)] at hJ'
          simp [isF_rowL]
          refine ⟨by omega, ?_⟩
          exact hJ'
        · intro x hx
          unfold extf
          split
          · rename_i hlt
            exact hok x hlt
          · have : x = i := by omega
            subst this
            exact hr
    · clear h st
      intro ρ h
      obtain ⟨st, f, v4, v5, v6, v7, hρ, hok, h⟩ := h
      subst hρ
      rw [vec_len] at hok ⊢
      have hz : frzL (vec n fun x => rowL n (f x)) = vec n fun x => rowL n (f x) := frzL_isFL _ (isFL_vec fun _ _ => isF_rowL)
      simp [hz]
      exact hK _ ⟨st, f, _, _, _, _, rfl, hok, h⟩
  · clear h st
    intro ρ h
    obtain ⟨st, f, v4, v5, v6, v7, hρ, hok, h⟩ := h
    subst hρ
    simp [isF_irows, ioOf]
    exact ⟨f, rfl, hok, h⟩
theorem sum_succ {g : Nat → Int} {i : Nat} : ((List.range (i + 1)).map g).sum = ((List.range i).map g).sum + g i := by
  rw [List.range_succ, List.map_append, List.sum_append]
  simp
theorem law_times_eq {n : Nat} {T : Tb} {f g : Fi} {k1 k2 k3 k4 : Kd} (h1 : k1 = .lst ∨ k1 = .tup) (h2 : k2 = .lst ∨ k2 = .tup) (h3 : k3 = .lst ∨ k3 = .tup) (h4 : k4 = .lst ∨ k4 = .tup) (hn : n ≤ 60) (hf : Sup n T f) (hg : Sup n T g) (bf : Bnd n f) (bg : Bnd n g) :
    F_law_times [tabD n T, irows k1 k2 n f, irows k3 k4 n g] = .rt (irows .tup .tup n (mulF n f g)) none := by
  apply wf_eq
  unfold F_law_times
  rw [wf_fn]
  unfold B_law_times
  refine wp_step fun K hK => ?_
  simp [isF_irows, l_irows h1]
  apply hK
  clear hK K
  refine wp_step fun K hK => ?_
  simp
  apply hK
  clear hK K
  refine wp_cutK (fun ρ => ∃ (v5 v6 v7 v8 v9 : Option D), ρ = [some (tabD n T), some (irows k1 k2 n f), some (irows k3 k4 n g), some (.a (.int (n : Int))), some (.n .lst false (vec n (irow .tup false n (mulF n f g)))), v5, v6, v7, v8, v9]) (fun K hK => ?_) ?_
  · simp [intL_vec]
    refine ⟨by omega, ?_⟩
    refine wp_forK (fun x ρ => ∃ (v5 v6 v7 v8 v9 : Option D), ρ = [some (tabD n T), some (irows k1 k2 n f), some (irows k3 k4 n g), some (.a (.int (n : Int))), some (.n .lst true (vec x (irow .tup false n (mulF n f g)))), v5, v6, v7, v8, v9]) ⟨none, none, none, none, none, rfl⟩ ?_ ?_
    · intro x d ρ hd h J hJ
      obtain ⟨v5, v6, v7, v8, v9, hρ⟩ := h
      subst hρ
      obtain ⟨hx, rfl⟩ := vec_get' hd
      rw [s_tg1]
      refine ⟨by simp, ?_⟩
      refine wp_step fun K hK => ?_
      simp
      apply hK
      clear hK K
      refine wp_cutK (fun ρ => ∃ (v7 v8 v9 : Option D), ρ = [some (tabD n T), some (irows k1 k2 n f), some (irows k3 k4 n g), some (.a (.int (n : Int))), some (.n .lst true (vec x (irow .tup false n (mulF n f g)))), some (.a (.int (x : Int))), some (irow .lst false n (mulF n f g) x), v7, v8, v9]) (fun K hK => ?_) ?_
      · simp [intL_vec]
        refine ⟨by omega, ?_⟩
        refine wp_forK (fun y ρ => ∃ (v7 v8 v9 : Option D), ρ = [some (tabD n T), some (irows k1 k2 n f), some (irows k3 k4 n g), some (.a (.int (n : Int))), some (.n .lst true (vec x (irow .tup false n (mulF n f g)))), some (.a (.int (x : Int))), some (.n .lst true (vec y fun y => .a (.int (mulF n f g x y)))), v7, v8, v9]) ⟨_, _, _, rfl⟩ ?_ ?_
        · intro y d ρ hd h J2 hJ2
          obtain ⟨v7, v8, v9, hρ⟩ := h
          subst hρ
          obtain ⟨hy, rfl⟩ := vec_get' hd
          rw [s_tg1]
          refine ⟨by simp, ?_⟩
          refine wp_step fun K hK => ?_
          simp
          apply hK
          clear hK K
          refine wp_cutK (fun ρ => ∃ (v9 : Option D), ρ = [some (tabD n T), some (irows k1 k2 n f), some (irows k3 k4 n g), some (.a (.int (n : Int))), some (.n .lst true (vec x (irow .tup false n (mulF n f g)))), some (.a (.int (x : Int))), some (.n .lst true (vec y fun y => .a (.int (mulF n f g x y)))), some (.a (.int (y : Int))), some (.a (.int (mulF n f g x y))), v9]) (fun K hK => ?_) ?_
          · simp [intL_vec]
            refine ⟨by omega, ?_⟩
            refine wp_forK (fun z ρ => ∃ (v9 : Option D), ρ = [some (tabD n T), some (irows k1 k2 n f), some (irows k3 k4 n g), some (.a (.int (n : Int))), some (.n .lst true (vec x (irow .tup false n (mulF n f g)))), some (.a (.int (x : Int))), some (.n .lst true (vec y fun y => .a (.int (mulF n f g x y)))), some (.a (.int (y : Int))), some (.a (.int ((List.range z).map fun z => f x z * g z y).sum)), v9]) ⟨_, rfl⟩ ?_ ?_
            · intro z d ρ hd h J3 hJ3
              obtain ⟨v9, hρ⟩ := h
              subst hρ
              obtain ⟨hz, rfl⟩ := vec_get' hd
              have hJ' := hJ3 _ ⟨some (.a (.int (z : Int))), rfl⟩
              have hm := mulOk_b (bf x z hx hz) (bg z y hz hy)
              have e1 : ((x : Int) = z) = (x = z) := by rw [eq_iff_iff]; omega
              have e2 : ((z : Int) = y) = (z = y) := by rw [eq_iff_iff]; omega
              rw [sum_succ] at hJ'
              have gt : ∀ (P : D → Prop) (a b : Nat), a < n → b < n → SO (gIx (brow false n T a) (.a (.int (b : Int)))) P = P (.a (.bl (T a b))) := fun P a b ha hb => so_ixLF hb rfl
              simp [isF_tabD, isF_irows, g_row' hx, g_row' hz, gt _ _ _ hx hz, gt _ _ _ hz hy, g_irows h1 hx, g_irow h2 hz, g_irows h3 hz, g_irow h4 hy, isF_irow, hm, e1, e2]
              have fin : ((x = z ∨ T x z = true) ∧ (z = y ∨ T z y = true)) ∨ f x z * g z y = 0 := by
                by_cases q1 : f x z = 0
                · rw [q1]; right; simp
                · by_cases q2 : g z y = 0
                  · rw [q2]; right; simp
                  · exact .inl ⟨hf x z hx hz q1, hg z y hz hy q2⟩
              by_cases q1 : x = z ∨ T x z = true
              · by_cases q2 : z = y ∨ T z y = true
                · have hq1 : x = z ∨ ¬ x = z ∧ T x z = true := by by_cases e : x = z <;> simp_all
                  have hq2 : z = y ∨ ¬ z = y ∧ T z y = true := by by_cases e : z = y <;> simp_all
                  by_cases e : x = z <;> by_cases e2 : z = y <;> simp_all
                · rcases fin with ⟨_, q⟩ | q
                  · exact absurd q q2
                  · rw [q] at hJ'
                    by_cases e : x = z <;> simp_all
              · rcases fin with ⟨q, _⟩ | q
                · exact absurd q q1
                · rw [q] at hJ'
                  simp_all
            · intro ρ h
              obtain ⟨v9, hρ⟩ := h
              subst hρ
              rw [vec_len]
              exact hK _ ⟨_, rfl⟩
          · intro ρ h
            obtain ⟨v9, hρ⟩ := h
            subst hρ
            have hJ' := hJ2 _ ⟨some (.a (.int (y : Int))), some (.a (.int (mulF n f g x y))), v9, rfl⟩
            rw [vec_succ] at hJ'
            simp
            refine ⟨by omega, ?_⟩
            exact hJ'
        · intro ρ h
          obtain ⟨v7, v8, v9, hρ⟩ := h
          subst hρ
          rw [vec_len]
          have hz : frzL (vec n fun y => D.a (.int (mulF n f g x y))) = vec n fun y => .a (.int (mulF n f g x y)) := frzL_rows fun _ _ => rfl
          simp [hz]
          exact hK _ ⟨_, _, _, rfl⟩
      · intro ρ h
        obtain ⟨v7, v8, v9, hρ⟩ := h
        subst hρ
        have hJ' := hJ _ ⟨some (.a (.int (x : Int))), some (irow .lst false n (mulF n f g) x), v7, v8, v9, rfl⟩
        rw [vec_succ] at hJ'
        have ht : ∀ P : D → Prop, SO (gTuple (irow .lst false n (mulF n f g) x)) P = P (irow .tup false n (mulF n f g) x) := fun P => by
          unfold irow
          rw [o_tupL, isFL_vec fun _ _ => rfl]
          simp
        simp [isF_irow, ht]
        refine ⟨by omega, ?_⟩
        exact hJ'
    · intro ρ h
      obtain ⟨v5, v6, v7, v8, v9, hρ⟩ := h
      subst hρ
      rw [vec_len]
      have hz : frzL (vec n (irow .tup false n (mulF n f g))) = vec n (irow .tup false n (mulF n f g)) := frzL_isFL _ (isFL_vec fun _ _ => isF_irow)
      simp [hz]
      exact hK _ ⟨_, _, _, _, _, rfl⟩
  · intro ρ h
    obtain ⟨v5, v6, v7, v8, v9, hρ⟩ := h
    subst hρ
    have hfl : isFL (vec n (irow .tup false n (mulF n f g))) = true := isFL_vec fun _ _ => isF_irow
    simp [hfl, ioOf]
    rfl
theorem catchMM {Q : Ps} {C : Str} {h : Exn → DL.Env → Fl} {r : List Hd} {ρ : DL.Env} : WP Q (dCatch ((C, [("Malformed", true), ("Refused", false)], h) :: r) ⟨"Malformed", []⟩ ρ) = WP ⟨Q.nx, Q.rt, Q.bk, Q.ct, fun _ _ => False⟩ (h ⟨"Malformed", []⟩ ρ) := by
  rw [p_catch (b := true) lkMM]
  simp
theorem refuses_eq {n : Nat} {T : Tb} {d : D} (hf : isF d = true) (h : F_is_table [ordT n T, d] = .rt (.a (.bl false)) none) : F_law_refuses [ordT n T, d] = .rt (.a (.bl true)) none := by
  apply wf_eq
  unfold F_law_refuses
  rw [wf_fn]
  unfold B_law_refuses
  obtain ⟨io, hb⟩ := inc_bad hf h
  simp [isF_ordT, hf, frz_ordT, frz_isF _ hf, hb, catchMM, ioOf]
theorem unlike_eq {n m : Nat} {T S : Tb} {f g : Fi} (hm : m ≤ 60) (hg : Sup m S g) (h : n ≠ m) : F_law_unlike [incD n T f, incD m S g] = .rt (.a (.bl true)) none := by
  have mulx : ∀ g, ∃ io, F_IncidenceU_mulU [incD n T f, incD m S g] = .ex ⟨"Malformed", []⟩ io := fun g => by
    obtain ⟨io, hc⟩ := check_same_no (n := n) (m := m) (T := T) (S := S) (f := f) (g := g) h
    apply wf_exx
    unfold F_IncidenceU_mulU
    rw [wf_fn]
    unfold B_IncidenceU_mulU
    refine wp_step fun K hK => ?_
    simp [isF_inc, frz_incD, hc]
  have addx : ∀ g, ∃ io, F_IncidenceU_addU [incD n T f, incD m S g] = .ex ⟨"Malformed", []⟩ io := fun g => by
    obtain ⟨io, hc⟩ := check_same_no (n := n) (m := m) (T := T) (S := S) (f := f) (g := g) h
    apply wf_exx
    unfold F_IncidenceU_addU
    rw [wf_fn]
    unfold B_IncidenceU_addU
    refine wp_step fun K hK => ?_
    simp [isF_inc, frz_incD, hc]
  have subx : ∃ io, F_IncidenceU_subU [incD n T f, incD m S g] = .ex ⟨"Malformed", []⟩ io := by
    have h1 := neg_eq hm hg
    obtain ⟨io, h2⟩ := addx fun x y => -g x y
    apply wf_exx
    unfold F_IncidenceU_subU
    rw [wf_fn]
    unfold B_IncidenceU_subU
    unfold incD at h1 h2
    simp [isF_inc, asIns_inc, isF_ordT, isF_irows, h1]
    rw [show frz (incO m S fun x y => -g x y) = incD m S (fun x y => -g x y) from frz_incO]
    simp [asIns_inc, isF_ordT, isF_irows, h2]
  obtain ⟨i1, h1⟩ := mulx g
  obtain ⟨i2, h2⟩ := addx g
  obtain ⟨i3, h3⟩ := subx
  unfold incD at h1 h2 h3
  apply wf_eq
  unfold F_law_unlike
  rw [wf_fn]
  unfold B_law_unlike
  refine wp_step fun K hK => ?_
  simp
  apply hK
  clear hK K
  refine wp_step fun K hK => ?_
  simp [isF_inc, asIns_inc, isF_ordT, isF_irows, h1, catchMM]
  apply hK
  clear hK K
  refine wp_step fun K hK => ?_
  simp [isF_inc, asIns_inc, isF_ordT, isF_irows, h2, catchMM]
  apply hK
  clear hK K
  refine wp_step fun K hK => ?_
  simp [isF_inc, asIns_inc, isF_ordT, isF_irows, h3, catchMM]
  apply hK
  clear hK K
  simp [ioOf]
end DC
namespace G25
open PySem L2 DL
def B_law : DL.Env → Fl :=
  (dSeq (dBind (dCall 1 DC.F_law_numbers (dACons (dVar 0) dANil)) (stSet 1))
  (dSeq (dBind (dFz (dCallL 2 (some 0) DC.F_law_order (dALent 1 (dACons (dC (.int 5)) dANil)))) (stSet 2))
  (dSeq (dBind (dMeth "Order" "size" 0 DC.F_Order_size (dVar 2) dANil) (stSet 3))
  (dSeq (dBind (dFz (dCall 1 DC.F_law_table (dACons (dVar 2) dANil))) (stSet 4))
  (dSeq (dBind (dFz (dCallL 2 (some 1) DC.F_law_function (dACons (dVar 2) (dALent 1 dANil)))) (stSet 5))
  (dSeq (dBind (dFz (dCallL 2 (some 1) DC.F_law_function (dACons (dVar 2) (dALent 1 dANil)))) (stSet 6))
  (dSeq (dBind (dFz (dMake "Incidence" 2 DC.F_IncidenceU_initU (dACons (dVar 2) (dACons (dVar 5) dANil)))) (stSet 7))
  (dSeq (dBind (dFz (dMake "Incidence" 2 DC.F_IncidenceU_initU (dACons (dVar 2) (dACons (dU gTuple (dLc [14] (dIter (dVar 6)) (tg1 14) dYes (dU gTuple (dVar 14)))) dANil)))) (stSet 8))
  (dSeq (dIf (dOrT (dB (dOp2 gNe (dU (gFld "rows") (dFz (dBinO "Incidence" DC.F_IncidenceU_mulU (dVar 7) (dVar 8)))) (dCall 3 DC.F_law_times (dACons (dVar 4) (dACons (dVar 5) (dACons (dVar 6) dANil)))))) (dOrT (dB (dOp2 (gOwn "Incidence" DC.F_IncidenceU_eqU true) (dFz (dBinO "Incidence" DC.F_IncidenceU_mulU (dVar 7) (dFz (dCall 1 DC.F_delta (dACons (dVar 2) dANil))))) (dVar 7))) (dB (dOp2 (gOwn "Incidence" DC.F_IncidenceU_eqU true) (dFz (dBinO "Incidence" DC.F_IncidenceU_mulU (dFz (dCall 1 DC.F_delta (dACons (dVar 2) dANil))) (dVar 7))) (dVar 7))))) (dBind (dC (.bl false)) fun d ρ => .rt d ρ) dNext)
  (dSeq (dFrz 1 (dBind (dOp2 gSub (dCallL 2 (some 0) DC.F_law_next (dALent 1 (dACons (dC (.int 5)) dANil))) (dC (.int 2))) (stSet 9)))
  (dSeq (dFor (dRng1 (dVar 3)) (tg1 10) (dFor (dRng1 (dVar 3)) (tg1 12) (dSeq (dIf (dOrT (dB (dOp2 gNe (dMeth "Incidence" "value" 2 DC.F_Incidence_value (dFz (dBinO "Incidence" DC.F_IncidenceU_addU (dVar 7) (dVar 8))) (dACons (dVar 10) (dACons (dVar 12) dANil))) (dOp2 gAdd (dOp2 gIx (dOp2 gIx (dVar 5) (dVar 10)) (dVar 12)) (dOp2 gIx (dOp2 gIx (dVar 6) (dVar 10)) (dVar 12))))) (dB (dOp2 gNe (dMeth "Incidence" "value" 2 DC.F_Incidence_value (dFz (dBinO "Incidence" DC.F_IncidenceU_subU (dVar 7) (dVar 8))) (dACons (dVar 10) (dACons (dVar 12) dANil))) (dOp2 gSub (dOp2 gIx (dOp2 gIx (dVar 5) (dVar 10)) (dVar 12)) (dOp2 gIx (dOp2 gIx (dVar 6) (dVar 10)) (dVar 12)))))) (dBind (dC (.bl false)) fun d ρ => .rt d ρ) dNext)
  (dIf (dOrT (dB (dOp2 gNe (dMeth "Incidence" "value" 2 DC.F_Incidence_value (dFz (dNegO "Incidence" DC.F_IncidenceU_negU (dVar 7))) (dACons (dVar 10) (dACons (dVar 12) dANil))) (dU gNeg (dOp2 gIx (dOp2 gIx (dVar 5) (dVar 10)) (dVar 12))))) (dB (dOp2 gNe (dMeth "Incidence" "value" 2 DC.F_Incidence_value (dFz (dMeth "Incidence" "scaled" 1 DC.F_Incidence_scaled (dVar 7) (dACons (dVar 9) dANil))) (dACons (dVar 10) (dACons (dVar 12) dANil))) (dOp2 gMul (dVar 9) (dOp2 gIx (dOp2 gIx (dVar 5) (dVar 10)) (dVar 12)))))) (dBind (dC (.bl false)) fun d ρ => .rt d ρ) dNext))))
  (dSeq (dIf (dOrT (dB (dOp2 (gOwn "Incidence" DC.F_IncidenceU_eqU true) (dMeth "Incidence" "power" 1 DC.F_Incidence_power (dVar 7) (dACons (dC (.int 0)) dANil)) (dFz (dCall 1 DC.F_delta (dACons (dVar 2) dANil))))) (dOrT (dB (dOp2 (gOwn "Incidence" DC.F_IncidenceU_eqU true) (dMeth "Incidence" "power" 1 DC.F_Incidence_power (dVar 7) (dACons (dC (.int 3)) dANil)) (dFz (dBinO "Incidence" DC.F_IncidenceU_mulU (dFz (dBinO "Incidence" DC.F_IncidenceU_mulU (dVar 7) (dVar 7))) (dVar 7))))) (dB (dOp2 gIsNot (dOp2 (gOr (gOwn "Incidence" DC.F_IncidenceU_eqU false) (gOr (gOwnT "Incidence" DC.F_IncidenceU_eqU) gEq)) (dVar 7) (dC (.int 1))) (dC (.bl false)))))) (dBind (dC (.bl false)) fun d ρ => .rt d ρ) dNext)
  (dSeq (dIf (dOrT (dB (dOp2 gNe (dOp2 (gOr (gOwn "Incidence" DC.F_IncidenceU_eqU false) (gOr (gOwnT "Incidence" DC.F_IncidenceU_eqU) gEq)) (dVar 7) (dVar 8)) (dOp2 gEq (dVar 5) (dVar 6)))) (dOrT (dNotT (dB (dCall 2 DC.F_law_refuses (dACons (dVar 2) (dACons (dOp2 gAdd (dVar 5) (dFz (dLst (dACons (dLst dANil) dANil)))) dANil))))) (dNotT (dB (dCall 2 DC.F_law_refuses (dACons (dVar 2) (dACons (dC .non) dANil))))))) (dBind (dC (.bl false)) fun d ρ => .rt d ρ) dNext)
  (dSeq (dBind (dFz (dMake "Incidence" 2 DC.F_IncidenceU_initU (dACons (dMake "Order" 2 DC.F_OrderU_initU (dACons (dOp2 gAdd (dVar 3) (dC (.int 1))) (dACons (dTup dANil) dANil))) (dACons (dLc [10] (dRng1 (dOp2 gAdd (dVar 3) (dC (.int 1)))) (tg1 10) dYes (dLc [12] (dRng1 (dOp2 gAdd (dVar 3) (dC (.int 1)))) (tg1 12) dYes (dC (.int 0)))) dANil)))) (stSet 11))
  (dSeq (dIf (dNotT (dB (dCall 2 DC.F_law_unlike (dACons (dVar 7) (dACons (dVar 11) dANil))))) (dBind (dC (.bl false)) fun d ρ => .rt d ρ) dNext)
  (dSeq (dFor (dIter (dMeth "Order" "pairs" 0 DC.F_Order_pairs (dVar 2) dANil)) (tgT [10, 12]) (dSeq (dBind (dLc [14] (dIter (dVar 5)) (tg1 14) dYes (dU gList (dVar 14))) (stSet 13))
  (dSeq (dFrz 13 (dBind (dC (.int 1)) (stSub2 13 (qVar 12) (qVar 10))))
  (dBind (dCall 2 DC.F_law_refuses (dACons (dVar 2) (dACons (dVar 13) dANil))) fun d ρ => .rt d ρ))))
  (dBind (dC (.bl true)) fun d ρ => .rt d ρ)))))))))))))))))
def F_law : List D → FR := fnD 15 none B_law
end G25
namespace G25
open PySem L2 DL DC
theorem value_eq' {n x y : Nat} {T : Tb} {f : Fi} (hx : x < n) (hy : y < n) : F_Incidence_value [.n (.ins "Incidence" ["order", "rows"]) false [ordT n T, irows .tup .tup n f], .a (.int (x : Int)), .a (.int (y : Int))] = .rt (.a (.int (f x y))) none := value_eq hx hy
theorem nfv : ¬ ("value" : Str) = "order" ∧ ¬ ("value" : Str) = "rows" := by decide +kernel
theorem nfsc : ¬ ("scaled" : Str) = "order" ∧ ¬ ("scaled" : Str) = "rows" := by decide +kernel
theorem nfpw : ¬ ("power" : Str) = "order" ∧ ¬ ("power" : Str) = "rows" := by decide +kernel
theorem isnot_ff : gIsNot (.a (.bl false)) (.a (.bl false)) = some (.a (.bl false)) := by kernel_rfl
section
variable {n : Nat} {T : Tb} {f g : Fi} {P : D → Prop}
theorem own_ne : SO (gOwn "Incidence" F_IncidenceU_eqU true (incD n T f) (incD n T g)) P = P (.a (.bl (!decide (∀ x, x < n → ∀ y, y < n → f x y = g x y)))) := by
  have := inceq_eq (n := n) (T := T) (f := f) (g := g)
  unfold incD at this ⊢
  rw [so_own (b := decide (∀ x, x < n → ∀ y, y < n → f x y = g x y)) (io := none) (by simp [isF_ordT, isF_irows]) (by simp [isF_ordT, isF_irows]) this]
  simp
theorem own_eq : SO (gOr (gOwn "Incidence" F_IncidenceU_eqU false) (gOr (gOwnT "Incidence" F_IncidenceU_eqU) gEq) (incD n T f) (incD n T g)) P = P (.a (.bl (decide (∀ x, x < n → ∀ y, y < n → f x y = g x y)))) := by
  have := inceq_eq (n := n) (T := T) (f := f) (g := g)
  unfold incD at this ⊢
  exact so_ownA (io := none) (by simp [isF_ordT, isF_irows]) (by simp [isF_ordT, isF_irows]) this
theorem own_int {i : Int} : SO (gOr (gOwn "Incidence" F_IncidenceU_eqU false) (gOr (gOwnT "Incidence" F_IncidenceU_eqU) gEq) (incD n T f) (.a (.int i))) P = P (.a (.bl false)) := by
  have := inceq_int (n := n) (T := T) (f := f) (i := i)
  unfold incD at this ⊢
  exact so_ownAT (t := "int") (io := none) (by simp [isF_ordT, isF_irows]) rfl rfl this
theorem ne_rows : SO (gNe (irows .tup .tup n f) (irows .tup .tup n f)) P = P (.a (.bl false)) := by
  unfold irows irow
  exact ne_same (.inl rfl) fun x hx => by
    obtain ⟨i, hi, rfl⟩ := mem_vec hx
    exact pDL_vec fun _ _ => rfl
end
theorem sum_pick {c : Nat} {a : Int} {h : Nat → Int} (hc : h c = a) (ho : ∀ z, z ≠ c → h z = 0) : ∀ n, ((List.range n).map h).sum = if c < n then a else 0
  | 0 => rfl
  | n + 1 => by
    rw [sum_succ, sum_pick hc ho n]
    by_cases e : n = c
    · subst e; simp [hc]
    · rw [ho n e]
      by_cases q : c < n
      · simp [q, show c < n + 1 by omega]
      · simp [q, show ¬ c < n + 1 by omega]
theorem mul_one {n : Nat} {f : Fi} {x y : Nat} (hy : y < n) : mulF n f oneF x y = f x y := by
  unfold mulF
  rw [sum_pick (c := y) (a := f x y) (by simp [oneF]) (fun z hz => by simp [oneF, hz])]
  simp [hy]
theorem one_mul {n : Nat} {f : Fi} {x y : Nat} (hx : x < n) : mulF n oneF f x y = f x y := by
  unfold mulF
  rw [sum_pick (c := x) (a := f x y) (by simp [oneF]) (fun z hz => by simp [oneF, Ne.symm hz])]
  simp [hx]
theorem mul_congr {n : Nat} {f f' g : Fi} {x y : Nat} (h : ∀ z, z < n → f x z = f' x z) : mulF n f g x y = mulF n f' g x y := by
  unfold mulF
  congr 1
  apply List.map_congr_left
  intro z hz
  rw [h z (List.mem_range.mp hz)]
theorem sum_abs {c : Nat} {h : Nat → Int} : ∀ n, (∀ z, z < n → (h z).natAbs ≤ c) → ((List.range n).map h).sum.natAbs ≤ n * c
  | 0, _ => by simp
  | n + 1, hh => by
    rw [sum_succ]
    have h1 := sum_abs n fun z hz => hh z (by omega)
    have h2 := hh n (by omega)
    rw [Nat.succ_mul]
    omega
theorem mul_abs {n a b : Nat} {f g : Fi} (hf : ∀ x y, x < n → y < n → (f x y).natAbs ≤ a) (hg : ∀ x y, x < n → y < n → (g x y).natAbs ≤ b) : ∀ x y, x < n → y < n → (mulF n f g x y).natAbs ≤ n * (a * b) := fun x y hx hy => by
  unfold mulF
  apply sum_abs
  intro z hz
  rw [Int.natAbs_mul]
  exact Nat.mul_le_mul (hf x z hx hz) (hg z y hz hy)
theorem mk_more {ρ : DL.Env} {n : Nat} (h3 : ρ[3]? = some (some (.a (.int (n : Int))))) (hn : n + 1 ≤ 10) : dMake "Order" 2 F_OrderU_initU (dACons (dOp2 gAdd (dVar 3) (dC (.int 1))) (dACons (dTup dANil) dANil)) ρ = .ok (bldO (n + 1) T0) ρ := by
  apply out_eq
  have mo := mk_nil (k := .tup) (.inr rfl) hn
  have hc : ((n + 1 : Nat) : Int) = (n : Int) + 1 := by omega
  simp only [hc] at mo ⊢
  generalize hX : D.n (.ins "Order" ["n", "above"]) true [.a (.int ((n : Int) + 1)), .n .tup false (vec (n + 1) (mrow (n + 1) T0))] = X at mo ⊢
  simp [h3]
  rw [mo]
  simp
theorem law_true (ns : List Int) (hl : ns.length ≤ 63) (hb : ∀ z ∈ ns, Builtin.Int.intBits z ≤ 1048576) : F_law [.scr (ns.map D.int)] = .rt (.bl true) none := by
  apply wf_eq
  unfold F_law
  rw [wf_fn]
  unfold B_law
  refine wp_step fun K hK => ?_
  simp
  refine (numbers_wf ns hl hb).mono ?_
  intro d io h1
  apply hK
  clear hK K
  generalize D.scr (ns.map D.int) = d0
  refine wp_cutK (fun ρ => ∃ (st : D) (n : Nat) (T : Tb), ρ = [some (d0), some (st), some (ordT n T), none, none, none, none, none, none, none, none, none, none, none, none] ∧ (Nms st ∧ n ≤ 5 ∧ Irr n T ∧ Tr n T)) (fun K hK => ?_) ?_
  · simp
    refine (order_wf h1.1 5 (by decide)).mono ?_
    rintro d io ⟨n, ps, rfl, hn, hac, st', rfl, h3⟩
    simp [ordD_eq]
    exact hK _ ⟨st', n, _, rfl, h3, hn, acyc_irr hac, clo_tr hac.bd⟩
  · clear h1 io d
    intro ρ h
    obtain ⟨st, n, T, hρ, h1, hn, hi, tT⟩ := h
    subst hρ
    have hn60 : n ≤ 60 := by omega
    refine wp_step fun K hK => ?_
    simp [isF_ordT, asIns_ord, size_eq', nfs]
    apply hK
    clear hK K
    refine wp_step fun K hK => ?_
    simp [isF_ordT, frz_ordT, table_eq hn60]
    apply hK
    clear hK K
    refine wp_cutK (fun ρ => ∃ (st : D) (f : Fi), ρ = [some (d0), some (st), some (ordT n T), some (.a (.int (n : Int))), some (tabD n T), some (irows .lst .lst n f), none, none, none, none, none, none, none, none, none] ∧ ((∀ x, x < n → RowOk n T x (f x)) ∧ Nms st)) (fun K hK => ?_) ?_
    · simp [isF_ordT, frz_ordT]
      refine (law_function_wf h1 hn60).mono ?_
      rintro d io ⟨f, rfl, hf, st', rfl, h3⟩
      simp [frz_isF _ isF_irows]
      exact hK _ ⟨st', f, rfl, hf, h3⟩
    clear h1 st
    intro ρ h
    obtain ⟨st, f, hρ, hf, h1⟩ := h
    subst hρ
    refine wp_cutK (fun ρ => ∃ (st : D) (g : Fi), ρ = [some (d0), some (st), some (ordT n T), some (.a (.int (n : Int))), some (tabD n T), some (irows .lst .lst n f), some (irows .lst .lst n g), none, none, none, none, none, none, none, none] ∧ ((∀ x, x < n → RowOk n T x (g x)) ∧ Nms st)) (fun K hK => ?_) ?_
    · simp [isF_ordT, frz_ordT]
      refine (law_function_wf h1 hn60).mono ?_
      rintro d io ⟨g, rfl, hg, st', rfl, h3⟩
      simp [frz_isF _ isF_irows]
      exact hK _ ⟨st', g, rfl, hg, h3⟩
    clear h1 st
    intro ρ h
    obtain ⟨st, g, hρ, hg, h1⟩ := h
    subst hρ
    have sf : Sup n T f := fun x y hx hy => (hf x hx).su y hy
    have sg : Sup n T g := fun x y hx hy => (hg x hx).su y hy
    have af : ∀ x y, x < n → y < n → (f x y).natAbs ≤ 2 := fun x y hx hy => (hf x hx).bd y hy
    have ag : ∀ x y, x < n → y < n → (g x y).natAbs ≤ 2 := fun x y hx hy => (hg x hx).bd y hy
    have bf : Bnd n f := fun x y hx hy => Nat.lt_of_le_of_lt (af x y hx hy) (by decide)
    have bg : Bnd n g := fun x y hx hy => Nat.lt_of_le_of_lt (ag x y hx hy) (by decide)
    have so : Sup n T oneF := oneF_sup
    have ao : ∀ x y, x < n → y < n → (oneF x y).natAbs ≤ 1 := fun x y _ _ => by unfold oneF; split <;> decide
    have bo : Bnd n oneF := fun x y hx hy => Nat.lt_of_le_of_lt (ao x y hx hy) (by decide)
    clear hf hg
    have mf := inc_mk (k1 := .lst) (k2 := .lst) (.inl rfl) (.inl rfl) hn60 sf
    refine wp_step fun K hK => ?_
    simp [isF_ordT, frz_ordT, isF_irows, frz_isF _ (isF_irows (k1 := .lst) (k2 := .lst) (n := n) (f := f)), mf, frz_incO]
    apply hK
    clear hK K
    clear mf
    refine wp_cutK (fun ρ => ρ = [some (d0), some (st), some (ordT n T), some (.a (.int (n : Int))), some (tabD n T), some (irows .lst .lst n f), some (irows .lst .lst n g), some (incD n T f), some (incD n T g), none, none, none, none, none, none]) (fun K hK => ?_) ?_
    · have mg := inc_mk (k1 := .tup) (k2 := .tup) (.inr rfl) (.inr rfl) hn60 sg
      have gt : ∀ x, gTuple (irow .lst false n g x) = some (irow .tup false n g x) := fun x => by
        unfold irow gTuple
        dsimp only
        rw [isFL_vec fun _ _ => rfl]
        rfl
      simp [-w_Lc, isF_ordT, frz_ordT]
      refine w_lcV (n := n) (g := irow .lst false n g) (irow .tup false n g) (fun d h => by simp at h) (by simp) (src_vec (.inl rfl) (var_eq rfl isF_irows) (fun _ _ => isF_irow) (by omega)) (by omega) (fun i hi => ?_) ?_
      · apply out_eq
        simp [isF_irow, gt]
      · have hfl : isFL (vec n (irow .tup false n g)) = true := isFL_vec fun _ _ => isF_irow
        have hfz : frzL (vec n (irow .tup false n g)) = vec n (irow .tup false n g) := frzL_isFL _ hfl
        unfold irows at mg
        simp [hfl, hfz, mg, frz_incO]
        exact hK _ rfl
    intro ρ h
    subst h
    have m1 := mul_eq hn60 tT sf sg bf bg
    have m2 := mul_eq hn60 tT sf so bf bo
    have m3 := mul_eq hn60 tT so sf bo bf
    have t1 := law_times_eq (k1 := .lst) (k2 := .lst) (k3 := .lst) (k4 := .lst) (.inl rfl) (.inl rfl) (.inl rfl) (.inl rfl) hn60 sf sg bf bg
    unfold incD at m1 m2 m3
    refine wp_step fun K hK => ?_
    simp [isF_inc, asIns_inc, isF_ordT, isF_irows, m1, frz_incO, fld_rows, t1, ne_rows, isF_tabD, frz_tabD, frz_isF _ (isF_irows (k1 := .lst) (k2 := .lst) (n := n) (f := f)), frz_isF _ (isF_irows (k1 := .lst) (k2 := .lst) (n := n) (f := g)), frz_ordT, delta_eq hn60, m2, m3, own_ne]
    refine ⟨fun x _ y hy => mul_one hy, fun x hx y _ => one_mul hx, ?_⟩
    apply hK
    clear hK K
    clear t1 m2 m3
    refine wp_cutK (fun ρ => ∃ (st : D) (k : Int), ρ = [some (d0), some (st), some (ordT n T), some (.a (.int (n : Int))), some (tabD n T), some (irows .lst .lst n f), some (irows .lst .lst n g), some (incD n T f), some (incD n T g), some (.a (.int k)), none, none, none, none, none] ∧ k.natAbs < 1000) (fun K hK => ?_) ?_
    · simp
      refine (next_wf h1 5 (by decide)).mono ?_
      rintro d io ⟨v, rfl, v0, v1, st', rfl, h6⟩
      simp
      exact hK _ ⟨_, v - 2, rfl, by omega⟩
    clear h1 st
    intro ρ h
    obtain ⟨st, k, hρ, hk⟩ := h
    subst hρ
    have md := m1
    have a1 := add_eq hn60 sf sg
    have s1 := sub_eq hn60 sf sg
    have g1 := neg_eq hn60 sf
    have c1 := scaled_eq hn60 sf bf (show k.natAbs < 1000000 by omega)
    unfold incD at a1 s1 g1 c1
    have fo : ∀ h : Fi, frz (incO n T h) = .n (.ins "Incidence" ["order", "rows"]) false [ordT n T, irows .tup .tup n h] := fun h => frz_incO
    refine wp_cutK (fun ρ => ∃ (v10 v12 : Option D), ρ = [some (d0), some (st), some (ordT n T), some (.a (.int (n : Int))), some (tabD n T), some (irows .lst .lst n f), some (irows .lst .lst n g), some (incD n T f), some (incD n T g), some (.a (.int k)), v10, none, v12, none, none] ∧ ((∀ d, v10 = some d → isF d = true) ∧ (∀ d, v12 = some d → isF d = true))) (fun K hK => ?_) ?_
    · simp [intL_vec]
      refine ⟨by omega, ?_⟩
      refine wp_forK (fun x ρ => ∃ (v10 v12 : Option D), ρ = [some (d0), some (st), some (ordT n T), some (.a (.int (n : Int))), some (tabD n T), some (irows .lst .lst n f), some (irows .lst .lst n g), some (incD n T f), some (incD n T g), some (.a (.int k)), v10, none, v12, none, none] ∧ ((∀ d, v10 = some d → isF d = true) ∧ (∀ d, v12 = some d → isF d = true))) ⟨none, none, rfl, fun d h => (by cases h), fun d h => (by cases h)⟩ ?_ ?_
      · intro x d ρ hd h J hJ
        obtain ⟨v10, v12, hρ, f10, f12⟩ := h
        subst hρ
        obtain ⟨hx, rfl⟩ := vec_get' hd
        simp [intL_vec]
        refine ⟨by omega, ?_⟩
        refine wp_forK (fun y ρ => ∃ (v12 : Option D), ρ = [some (d0), some (st), some (ordT n T), some (.a (.int (n : Int))), some (tabD n T), some (irows .lst .lst n f), some (irows .lst .lst n g), some (incD n T f), some (incD n T g), some (.a (.int k)), some (.a (.int (x : Int))), none, v12, none, none] ∧ (∀ d, v12 = some d → isF d = true)) ⟨_, rfl, f12⟩ ?_ ?_
        · intro y d ρ hd h J2 hJ2
          obtain ⟨v12, hρ, f12⟩ := h
          subst hρ
          obtain ⟨hy, rfl⟩ := vec_get' hd
          rw [s_tg1]
          refine ⟨by simp, ?_⟩
          refine wp_step fun K hK => ?_
          simp [isF_inc, asIns_inc, isF_ordT, isF_irows, a1, s1, fo, nfv, value_eq' hx hy, g_irows (k1 := .lst) (.inl rfl) hx, g_irow (k2 := .lst) (.inl rfl) hy, isF_irow]
          apply hK
          clear hK K
          simp [isF_inc, asIns_inc, isF_ordT, isF_irows, g1, c1, fo, nfv, nfsc, value_eq' hx hy, g_irows (k1 := .lst) (.inl rfl) hx, g_irow (k2 := .lst) (.inl rfl) hy, isF_irow, mulOk_b (show k.natAbs < 1000000 by omega) (bf x y hx hy)]
          exact hJ2 _ ⟨_, rfl, fun d h => (by cases h; rfl)⟩
        · intro ρ h
          obtain ⟨v12, hρ, f12⟩ := h
          subst hρ
          exact hJ _ ⟨_, _, rfl, fun d h => (by cases h; rfl), f12⟩
      · intro ρ h
        obtain ⟨v10, v12, hρ, f10, f12⟩ := h
        subst hρ
        exact hK _ ⟨_, _, rfl, f10, f12⟩
    intro ρ h
    obtain ⟨v10, v12, hρ, hv10, hv12⟩ := h
    subst hρ
    clear a1 s1 g1 c1 fo
    have b0 : ∀ j, j < 0 → Bnd n (powF n f j) := fun j hj => absurd hj (Nat.not_lt_zero _)
    have e1 : ∀ x y, x < n → y < n → powF n f 1 x y = f x y := fun x y hx _ => one_mul hx
    have a2 : ∀ x y, x < n → y < n → (powF n f 1 x y).natAbs ≤ 2 := fun x y hx hy => by rw [e1 x y hx hy]; exact af x y hx hy
    have b3 : ∀ j, j < 3 → Bnd n (powF n f j) := fun j hj x y hx hy => by
      match j, hj with
      | 0, _ => exact Nat.lt_of_le_of_lt (ao x y hx hy) (by decide)
      | 1, _ => exact Nat.lt_of_le_of_lt (a2 x y hx hy) (by decide)
      | 2, _ => 
        have := mul_abs a2 af x y hx hy
        show (mulF n (powF n f 1) f x y).natAbs < _
        omega
    have p0 : F_Incidence_power [incD n T f, .a (.int 0)] = .rt (incD n T oneF) none := power_eq (k := 0) hn60 (by decide) tT sf bf b0
    have p3 : F_Incidence_power [incD n T f, .a (.int 3)] = .rt (incD n T (powF n f 3)) none := power_eq (k := 3) hn60 (by decide) tT sf bf b3
    have mm := mul_eq hn60 tT sf sf bf bf
    have bm : Bnd n (mulF n f f) := fun x y hx hy => by
      have := mul_abs af af x y hx hy
      omega
    have mm2 := mul_eq hn60 tT (mulF_sup tT sf sf) sf bm bf
    have e3 : ∀ x, x < n → ∀ y, y < n → powF n f 3 x y = mulF n (mulF n f f) f x y := fun x hx y hy => mul_congr fun z hz => mul_congr fun w hw => one_mul hx
    refine wp_step fun K hK => ?_
    have fd : ∀ h : Fi, D.n (.ins "Incidence" ["order", "rows"]) false [ordT n T, irows .tup .tup n h] = incD n T h := fun h => rfl
    simp [isF_inc, asIns_inc, isF_ordT, isF_irows, nfpw, p0, p3, mm, mm2, fd, delta_eq hn60, frz_ordT, frz_incO, own_ne, own_eq, own_int, isnot_ff]
    refine ⟨e3, ?_⟩
    apply hK
    clear hK K
    clear p0 p3 mm mm2 fd e3 bm b3 a2 e1 b0 md m1
    have hfl : isFL (vec n (irow .lst false n f) ++ [D.n .lst false []]) = true := isFL_all.mpr fun x hx => by
      rcases List.mem_append.mp hx with q | q
      · obtain ⟨i, hi, rfl⟩ := mem_vec q
        exact isF_irow
      · rw [List.mem_singleton.mp q]; rfl
    have cat1 : ∀ P : D → Prop, SO (gAdd (irows .lst .lst n f) (.n .lst false [.n .lst false []])) P = P (.lst true (vec n (irow .lst false n f) ++ [.n .lst false []])) := fun P => catL (isFL_vec fun _ _ => isF_irow) rfl (by rw [vec_len]; simp; omega)
    have r1 := refuses_eq (d := .n .lst false (vec n (irow .lst false n f) ++ [.n .lst false []])) (by rw [isF_n, hfl]; rfl) (is_table_len (T := T) (.inl rfl) hfl (by rw [List.length_append, vec_len]; show n + 1 ≠ n; omega))
    have r2 := refuses_eq (d := .a .non) rfl (is_table_non (n := n) (T := T))
    refine wp_step fun K hK => ?_
    simp [isF_inc, isF_irows, isF_ordT, frz_ordT, own_eq, o_eqM (k1 := .lst) (k2 := .lst) (.inl rfl) (.inl rfl), cat1, frzL_isFL _ hfl, r1, r2]
    apply hK
    clear hK K
    clear r1 r2 cat1 hfl
    have sz : Sup (n + 1) T0 (fun _ _ => 0) := fun _ _ _ _ h => absurd rfl h
    refine wp_cutK (fun ρ => ∃ (v10 v12 : Option D), ρ = [some (d0), some (st), some (ordT n T), some (.a (.int (n : Int))), some (tabD n T), some (irows .lst .lst n f), some (irows .lst .lst n g), some (incD n T f), some (incD n T g), some (.a (.int k)), v10, some (incD (n + 1) T0 fun _ _ => 0), v12, none, none]) (fun K hK => ?_) ?_
    · have mi := mk_rows (show n + 1 ≤ 60 by omega) sz
      have hz : ∀ ρ : DL.Env, ρ.length = 15 → ρ[3]? = some (some (.a (.int (n : Int)))) → ρ[10]? = some v10 → ρ[12]? = some v12 → (∀ d, v10 = some d → isF d = true) → (∀ d, v12 = some d → isF d = true) → dLc [10] (dRng1 (dOp2 gAdd (dVar 3) (dC (.int 1)))) (tg1 10) dYes (dLc [12] (dRng1 (dOp2 gAdd (dVar 3) (dC (.int 1)))) (tg1 12) dYes (dC (.int 0))) ρ = .ok (.lst true (vec (n + 1) fun x => .lst true (vec (n + 1) fun y => .a (.int 0)))) ρ := fun ρ hl h3 h10 h12 f10 f12 => by
        apply out_eq
        refine w_mat (n := n + 1) (g1 := fun i => .a (.int (i : Int))) (g2 := fun _ i => .a (.int (i : Int))) (m := fun _ => n + 1) (fun x y => .a (.int 0)) (fun d h => f10 d (by rw [h10] at h; simpa using h)) (fun d h => f12 d (by rw [h12] at h; simpa using h)) (by omega) (by omega) (by decide) (src_rng (out_eq (by simp [h3])) (by omega)) (fun x hx => src_rng (out_eq (by simp [h3])) (by omega)) (by omega) (fun _ _ => by omega) (fun x y hx hy => rfl) ⟨rfl, rfl⟩
      have mo := fun (ρ : DL.Env) h3 => mk_more (ρ := ρ) (n := n) h3 (by omega)
      rw [wx, p_Bind, w_Fz, w_Make, w_ACons, mo _ rfl, wo_ok, w_ACons, hz _ rfl rfl rfl rfl hv10 hv12, wo_ok]
      generalize hX : bldO (n + 1) T0 = X
      have hX' : frz X = ordT (n + 1) T0 := by rw [← hX, frz_bldO]
      simp [hX', mi]
      rw [frz_n] at mi
      rw [mi]
      simp [frz_incO]
      exact hK _ ⟨_, _, rfl⟩
    intro ρ h
    obtain ⟨v10, v12, hρ⟩ := h
    subst hρ
    have u1 := unlike_eq (n := n) (T := T) (f := f) (show n + 1 ≤ 60 by omega) sz (show n ≠ n + 1 by omega)
    refine wp_step fun K hK => ?_
    simp [isF_inc, frz_incD, u1]
    apply hK
    clear hK K
    clear u1 sz
    have pq : ∀ {P : List D → Prop}, SO (itemsOf (.n .tup false ((prs n T).map prD))) P = P ((prs n T).map prD) := fun {P} => by
      have hl := prs_lenn (n := n) (T := T)
      have : n * n ≤ 5 * n := Nat.mul_le_mul_right n hn
      rw [o_itT, List.length_map]
      simp
      omega
    refine wp_cutK (fun ρ => ∃ (v10 v12 v13 v14 : Option D), ρ = [some (d0), some (st), some (ordT n T), some (.a (.int (n : Int))), some (tabD n T), some (irows .lst .lst n f), some (irows .lst .lst n g), some (incD n T f), some (incD n T g), some (.a (.int k)), v10, some (incD (n + 1) T0 fun _ _ => 0), v12, v13, v14]) (fun K hK => ?_) ?_
    · simp [isF_ordT, asIns_ord, pairs_eq' hn60, nfp, pq]
      refine wp_forK (fun i ρ => i = 0 ∧ ρ = [some (d0), some (st), some (ordT n T), some (.a (.int (n : Int))), some (tabD n T), some (irows .lst .lst n f), some (irows .lst .lst n g), some (incD n T f), some (incD n T g), some (.a (.int k)), v10, some (incD (n + 1) T0 fun _ _ => 0), v12, none, none]) ⟨rfl, rfl⟩ ?_ ?_
      · intro i d ρ hd h J hJ
        obtain ⟨rfl, rfl⟩ := h
        obtain ⟨⟨x, y⟩, hp, rfl⟩ : ∃ p, (prs n T)[0]? = some p ∧ d = DC.prD p := by
          rw [List.getElem?_map] at hd
          cases e : (prs n T)[0]? with
          | none => rw [e] at hd; cases hd
          | some p => rw [e] at hd; exact ⟨p, rfl, by simpa using hd.symm⟩
        have hm := mem_prs.mp (List.mem_of_getElem? hp)
        obtain ⟨hx, hy, hT⟩ := hm
        have hne : x ≠ y := fun e => by subst e; rw [hi x hx] at hT; cases hT
        have hnT : T y x = false := by
          cases e : T y x with
          | false => rfl
          | true => exact absurd (tT x y x hx hy hx hT e) (by rw [hi x hx]; decide)
        obtain ⟨f', hf'⟩ : ∃ f' : Fi, f' = fun a b => if a = y ∧ b = x then 1 else f a b := ⟨_, rfl⟩
        have ns' : ¬ Sup n T f' := fun s => by
          have := s y x hy hx (by rw [hf']; simp)
          rcases this with e | e
          · exact hne e.symm
          · rw [hnT] at e; cases e
        have r1 := refuses_eq (isF_irows) (is_table_no (k1 := .lst) (k2 := .lst) (.inl rfl) (.inl rfl) hn60 ns')
        have hset : (vec n (irow .lst true n f)).set y (.n .lst true ((vec n fun b => .a (.int (f y b))).set x (.a (.int 1)))) = vec n (irow .lst true n f') := by
          rw [vec_set, vec_set]
          refine vec_ext fun a ha => ?_
          by_cases e : a = y
          · subst e
            rw [if_pos rfl]
            unfold irow
            congr 1
            refine vec_ext fun b hb => ?_
            rw [hf']
            by_cases e2 : b = x <;> simp [e2]
          · rw [if_neg e]
            unfold irow
            congr 1
            refine vec_ext fun b hb => ?_
            rw [hf']
            simp [e]
        have gl : ∀ a, gList (irow .lst false n f a) = some (irow .lst true n f a) := fun a => by
          unfold irow gList
          dsimp only
          rw [isFL_vec fun _ _ => rfl]
          rfl
        have hls : ∀ ρ : DL.Env, ρ.length = 15 → ρ[5]? = some (some (irows .lst .lst n f)) → ρ[14]? = some none → dLc [14] (dIter (dVar 5)) (tg1 14) dYes (dU gList (dVar 14)) ρ = .ok (.lst true (vec n (irow .lst true n f))) ρ := fun ρ hl h5 h14 => by
          apply out_eq
          refine w_lcV (irow .lst true n f) (fun d h => by rw [h14] at h; simp at h) (by omega) (src_vec (.inl rfl) (var_eq h5 isF_irows) (fun _ _ => isF_irow) (by omega)) (by omega) (fun i hi => ?_) ⟨rfl, rfl⟩
          apply out_eq
          simp [gl, isF_irow]
          rw [List.getElem?_set_self (by omega)]
          simp [gl, isF_irow]
        have zt : ∀ {P : DL.Env → Prop} {ρ : DL.Env}, ρ.length = 15 → SO (tgT [10, 12] (DC.prD (x, y)) ρ) P = P ((ρ.set 10 (some (.a (.int (x : Int))))).set 12 (some (.a (.int (y : Int))))) := fun {P ρ} hl => by
          unfold DC.prD
          simp [hl, natD]
        rw [zt rfl]
        refine wp_step fun K2 hK2 => ?_
        rw [wx, p_Bind, hls _ rfl rfl rfl]
        simp
        apply hK2
        clear hK2 K2
        refine wp_step fun K2 hK2 => ?_
        have hrow : irow .lst true n f y = .n .lst true (vec n fun b => .a (.int (f y b))) := rfl
        simp [so_ixN hy, so_ixN hx, vec_get hy, hrow, hset]
        have hz : frzL (vec n (irow .lst true n f')) = vec n (irow .lst false n f') := frz_irowL
        rw [hz]
        apply hK2
        clear hK2 K2
        have fr : D.n .lst false (vec n (irow .lst false n f')) = irows .lst .lst n f' := rfl
        simp [fr, isF_ordT, isF_irows, frz_ordT, frz_isF _ (isF_irows (k1 := .lst) (k2 := .lst) (n := n) (f := f')), r1, ioOf]
      · rintro ρ ⟨h0, rfl⟩
        exact hK _ ⟨_, _, _, _, rfl⟩
    intro ρ h
    obtain ⟨v10, v12, v13, v14, hρ⟩ := h
    subst hρ
    simp [ioOf]
end G25
namespace G25
open PySem L2 DL PyProof.Rows
def top (i : Nat) : Stmt := PySem.Challenge.pw_orderforms_k25_incidence_functions.main.body.getD i (.Pass ⟨0, 0, 0, 0⟩)
abbrev s_law_numbers : Stmt := top 21
def d_law_numbers : He.DefD := ⟨("_law_numbers", none), "_law_numbers", "_law_numbers", defArgs s_law_numbers, defBody s_law_numbers, defScope s_law_numbers, [], []⟩
abbrev s_law_next : Stmt := top 22
def d_law_next : He.DefD := ⟨("_law_next", none), "_law_next", "_law_next", defArgs s_law_next, defBody s_law_next, defScope s_law_next, [], []⟩
abbrev s_has : Stmt := top 9
def d_has : He.DefD := ⟨("has", none), "has", "has", defArgs s_has, defBody s_has, defScope s_has, [], []⟩
abbrev s_u_closed : Stmt := top 18
def d_u_closed : He.DefD := ⟨("_closed", none), "_closed", "_closed", defArgs s_u_closed, defBody s_u_closed, defScope s_u_closed, [], []⟩
abbrev s_is_integer : Stmt := top 6
def d_is_integer : He.DefD := ⟨("is_integer", none), "is_integer", "is_integer", defArgs s_is_integer, defBody s_is_integer, defScope s_is_integer, [], []⟩
abbrev s_u_checked_pairs : Stmt := top 17
def d_u_checked_pairs : He.DefD := ⟨("_checked_pairs", none), "_checked_pairs", "_checked_pairs", defArgs s_u_checked_pairs, defBody s_u_checked_pairs, defScope s_u_checked_pairs, [], []⟩
abbrev s_OrderU_initU : Stmt := inClass (top 19) 0
def d_OrderU_initU : He.DefD := ⟨("Order", some "__init__"), "__init__", "Order.__init__", defArgs s_OrderU_initU, defBody s_OrderU_initU, defScope s_OrderU_initU, [], []⟩
abbrev s_law_order : Stmt := top 23
def d_law_order : He.DefD := ⟨("_law_order", none), "_law_order", "_law_order", defArgs s_law_order, defBody s_law_order, defScope s_law_order, [], []⟩
abbrev s_Order_size : Stmt := inClass (top 19) 3
def d_Order_size : He.DefD := ⟨("Order", some "size"), "size", "Order.size", defArgs s_Order_size, defBody s_Order_size, defScope s_Order_size, [], []⟩
abbrev s_members : Stmt := top 7
def d_members : He.DefD := ⟨("members", none), "members", "members", defArgs s_members, defBody s_members, defScope s_members, [], []⟩
abbrev s_Order_pairs : Stmt := inClass (top 19) 8
def d_Order_pairs : He.DefD := ⟨("Order", some "pairs"), "pairs", "Order.pairs", defArgs s_Order_pairs, defBody s_Order_pairs, defScope s_Order_pairs, [], []⟩
abbrev s_law_table : Stmt := top 24
def d_law_table : He.DefD := ⟨("_law_table", none), "_law_table", "_law_table", defArgs s_law_table, defBody s_law_table, defScope s_law_table, [], []⟩
abbrev s_Order_at_most : Stmt := inClass (top 19) 6
def d_Order_at_most : He.DefD := ⟨("Order", some "at_most"), "at_most", "Order.at_most", defArgs s_Order_at_most, defBody s_Order_at_most, defScope s_Order_at_most, [], []⟩
abbrev s_law_function : Stmt := top 25
def d_law_function : He.DefD := ⟨("_law_function", none), "_law_function", "_law_function", defArgs s_law_function, defBody s_law_function, defScope s_law_function, [], []⟩
abbrev s_is_table : Stmt := top 11
def d_is_table : He.DefD := ⟨("is_table", none), "is_table", "is_table", defArgs s_is_table, defBody s_is_table, defScope s_is_table, [], []⟩
abbrev s_IncidenceU_initU : Stmt := inClass (top 12) 0
def d_IncidenceU_initU : He.DefD := ⟨("Incidence", some "__init__"), "__init__", "Incidence.__init__", defArgs s_IncidenceU_initU, defBody s_IncidenceU_initU, defScope s_IncidenceU_initU, [], []⟩
abbrev s_OrderU_eqU : Stmt := inClass (top 19) 2
def d_OrderU_eqU : He.DefD := ⟨("Order", some "__eq__"), "__eq__", "Order.__eq__", defArgs s_OrderU_eqU, defBody s_OrderU_eqU, defScope s_OrderU_eqU, [], []⟩
abbrev s_IncidenceU_eqU : Stmt := inClass (top 12) 1
def d_IncidenceU_eqU : He.DefD := ⟨("Incidence", some "__eq__"), "__eq__", "Incidence.__eq__", defArgs s_IncidenceU_eqU, defBody s_IncidenceU_eqU, defScope s_IncidenceU_eqU, [], []⟩
abbrev s_check_same : Stmt := top 13
def d_check_same : He.DefD := ⟨("check_same", none), "check_same", "check_same", defArgs s_check_same, defBody s_check_same, defScope s_check_same, [], []⟩
abbrev s_IncidenceU_mulU : Stmt := inClass (top 12) 5
def d_IncidenceU_mulU : He.DefD := ⟨("Incidence", some "__mul__"), "__mul__", "Incidence.__mul__", defArgs s_IncidenceU_mulU, defBody s_IncidenceU_mulU, defScope s_IncidenceU_mulU, [], []⟩
abbrev s_IncidenceU_addU : Stmt := inClass (top 12) 2
def d_IncidenceU_addU : He.DefD := ⟨("Incidence", some "__add__"), "__add__", "Incidence.__add__", defArgs s_IncidenceU_addU, defBody s_IncidenceU_addU, defScope s_IncidenceU_addU, [], []⟩
abbrev s_IncidenceU_negU : Stmt := inClass (top 12) 3
def d_IncidenceU_negU : He.DefD := ⟨("Incidence", some "__neg__"), "__neg__", "Incidence.__neg__", defArgs s_IncidenceU_negU, defBody s_IncidenceU_negU, defScope s_IncidenceU_negU, [], []⟩
abbrev s_IncidenceU_subU : Stmt := inClass (top 12) 4
def d_IncidenceU_subU : He.DefD := ⟨("Incidence", some "__sub__"), "__sub__", "Incidence.__sub__", defArgs s_IncidenceU_subU, defBody s_IncidenceU_subU, defScope s_IncidenceU_subU, [], []⟩
abbrev s_law_unlike : Stmt := top 28
def d_law_unlike : He.DefD := ⟨("_law_unlike", none), "_law_unlike", "_law_unlike", defArgs s_law_unlike, defBody s_law_unlike, defScope s_law_unlike, [], []⟩
abbrev s_law_refuses : Stmt := top 27
def d_law_refuses : He.DefD := ⟨("_law_refuses", none), "_law_refuses", "_law_refuses", defArgs s_law_refuses, defBody s_law_refuses, defScope s_law_refuses, [], []⟩
abbrev s_law_times : Stmt := top 26
def d_law_times : He.DefD := ⟨("_law_times", none), "_law_times", "_law_times", defArgs s_law_times, defBody s_law_times, defScope s_law_times, [], []⟩
abbrev s_delta : Stmt := top 14
def d_delta : He.DefD := ⟨("delta", none), "delta", "delta", defArgs s_delta, defBody s_delta, defScope s_delta, [], []⟩
abbrev s_Incidence_power : Stmt := inClass (top 12) 8
def d_Incidence_power : He.DefD := ⟨("Incidence", some "power"), "power", "Incidence.power", defArgs s_Incidence_power, defBody s_Incidence_power, defScope s_Incidence_power, [], []⟩
abbrev s_Incidence_value : Stmt := inClass (top 12) 6
def d_Incidence_value : He.DefD := ⟨("Incidence", some "value"), "value", "Incidence.value", defArgs s_Incidence_value, defBody s_Incidence_value, defScope s_Incidence_value, [], []⟩
abbrev s_Incidence_scaled : Stmt := inClass (top 12) 7
def d_Incidence_scaled : He.DefD := ⟨("Incidence", some "scaled"), "scaled", "Incidence.scaled", defArgs s_Incidence_scaled, defBody s_Incidence_scaled, defScope s_Incidence_scaled, [], []⟩
abbrev s_law : Stmt := top 29
def d_law : He.DefD := ⟨("law", none), "law", "law", defArgs s_law, defBody s_law, defScope s_law, [], []⟩
def fn : List He.DefD := [d_law_numbers, d_law_next, d_has, d_u_closed, d_is_integer, d_u_checked_pairs, d_OrderU_initU, d_law_order, d_Order_size, d_members, d_Order_pairs, d_law_table, d_Order_at_most, d_law_function, d_is_table, d_IncidenceU_initU, d_OrderU_eqU, d_IncidenceU_eqU, d_check_same, d_IncidenceU_mulU, d_IncidenceU_addU, d_IncidenceU_negU, d_IncidenceU_subU, d_law_unlike, d_law_refuses, d_law_times, d_delta, d_Incidence_power, d_Incidence_value, d_Incidence_scaled, d_law]
def fa : List He.Fa := [.free "range", .free "len", .free "min", .free "abs", .glo "has", .glo "Refused", .free "super", .free "tuple", .free "isinstance", .free "int", .free "bool", .free "list", .glo "Malformed", .exc "Malformed", .glo "is_integer", .int "MOST" 10, .cls "Order", .noat "Order" "n", .glo "_closed", .glo "_checked_pairs", .noat "Order" "above", .glo "_law_next", .glo "Order", .mkr "Order", .glo "members", .meth "Order" "size", .meth "Order" "pairs", .meth "Order" "at_most", .glo "is_table", .cls "Incidence", .noat "Incidence" "order", .noat "Incidence" "rows", .glo "Incidence", .meth "Order" "__eq__", .glo "check_same", .free "sum", .mkr "Incidence", .meth "Incidence" "__add__", .meth "Incidence" "__neg__", .meth "Incidence" "__mul__", .exm "Malformed" "Malformed" true, .exm "Refused" "Malformed" false, .meth "Incidence" "__sub__", .glo "delta", .glo "_law_numbers", .glo "_law_order", .glo "_law_table", .glo "_law_function", .glo "_law_times", .meth "Incidence" "__eq__", .meth "Incidence" "value", .meth "Incidence" "scaled", .meth "Incidence" "power", .glo "_law_refuses", .glo "_law_unlike", .glo "law"]
def file : Str := "/claim/cut.py"
abbrev se_Refused : Stmt := inClass (top 4) 0
def es : List DL.ExD := [⟨"Refused", "reason", "__init__", "Refused.__init__", defArgs se_Refused, defBody se_Refused, defScope se_Refused⟩]
def ys : List DL.Fy := [fun K => DL.clsXB K (He.ga K "Order"), fun K => DL.kitNB K (He.ga K "Order"), fun K => DL.clsXB K (He.ga K "Incidence"), fun K => DL.kitNB K (He.ga K "Incidence"), fun K => PySem.W.selfFirst K (He.ga K "Incidence")]
structure TX (P : Program) (K : PySem.W.Frag) (mg : Str → Option Value) : Prop where
  says : DL.SaysY file fa fn es ys K
  pf : P.main.file = file
  pt : (P.main.scope.names.lookup ("super" : Str)).isSome = false
  ex : ∃ h : Heap, K.In h ∧ h.Ns mainGlobals mg
section
variable {P : Program} {K : PySem.W.Frag} {mg : Str → Option Value}
theorem TX.d_law_numbers (T : TX P K mg) : ∃ fd, FunD K d_law_numbers.name d_law_numbers.qual d_law_numbers.params d_law_numbers.body d_law_numbers.scope [] [] (He.fAd K d_law_numbers.at_) fd := T.says.d.def_ 0 rfl
theorem TX.d_law_next (T : TX P K mg) : ∃ fd, FunD K d_law_next.name d_law_next.qual d_law_next.params d_law_next.body d_law_next.scope [] [] (He.fAd K d_law_next.at_) fd := T.says.d.def_ 1 rfl
theorem TX.d_has (T : TX P K mg) : ∃ fd, FunD K d_has.name d_has.qual d_has.params d_has.body d_has.scope [] [] (He.fAd K d_has.at_) fd := T.says.d.def_ 2 rfl
theorem TX.d_u_closed (T : TX P K mg) : ∃ fd, FunD K d_u_closed.name d_u_closed.qual d_u_closed.params d_u_closed.body d_u_closed.scope [] [] (He.fAd K d_u_closed.at_) fd := T.says.d.def_ 3 rfl
theorem TX.d_is_integer (T : TX P K mg) : ∃ fd, FunD K d_is_integer.name d_is_integer.qual d_is_integer.params d_is_integer.body d_is_integer.scope [] [] (He.fAd K d_is_integer.at_) fd := T.says.d.def_ 4 rfl
theorem TX.d_u_checked_pairs (T : TX P K mg) : ∃ fd, FunD K d_u_checked_pairs.name d_u_checked_pairs.qual d_u_checked_pairs.params d_u_checked_pairs.body d_u_checked_pairs.scope [] [] (He.fAd K d_u_checked_pairs.at_) fd := T.says.d.def_ 5 rfl
theorem TX.d_OrderU_initU (T : TX P K mg) : ∃ fd, FunD K d_OrderU_initU.name d_OrderU_initU.qual d_OrderU_initU.params d_OrderU_initU.body d_OrderU_initU.scope [] [] (He.fAd K d_OrderU_initU.at_) fd := T.says.d.def_ 6 rfl
theorem TX.d_law_order (T : TX P K mg) : ∃ fd, FunD K d_law_order.name d_law_order.qual d_law_order.params d_law_order.body d_law_order.scope [] [] (He.fAd K d_law_order.at_) fd := T.says.d.def_ 7 rfl
theorem TX.d_Order_size (T : TX P K mg) : ∃ fd, FunD K d_Order_size.name d_Order_size.qual d_Order_size.params d_Order_size.body d_Order_size.scope [] [] (He.fAd K d_Order_size.at_) fd := T.says.d.def_ 8 rfl
theorem TX.d_members (T : TX P K mg) : ∃ fd, FunD K d_members.name d_members.qual d_members.params d_members.body d_members.scope [] [] (He.fAd K d_members.at_) fd := T.says.d.def_ 9 rfl
theorem TX.d_Order_pairs (T : TX P K mg) : ∃ fd, FunD K d_Order_pairs.name d_Order_pairs.qual d_Order_pairs.params d_Order_pairs.body d_Order_pairs.scope [] [] (He.fAd K d_Order_pairs.at_) fd := T.says.d.def_ 10 rfl
theorem TX.d_law_table (T : TX P K mg) : ∃ fd, FunD K d_law_table.name d_law_table.qual d_law_table.params d_law_table.body d_law_table.scope [] [] (He.fAd K d_law_table.at_) fd := T.says.d.def_ 11 rfl
theorem TX.d_Order_at_most (T : TX P K mg) : ∃ fd, FunD K d_Order_at_most.name d_Order_at_most.qual d_Order_at_most.params d_Order_at_most.body d_Order_at_most.scope [] [] (He.fAd K d_Order_at_most.at_) fd := T.says.d.def_ 12 rfl
theorem TX.d_law_function (T : TX P K mg) : ∃ fd, FunD K d_law_function.name d_law_function.qual d_law_function.params d_law_function.body d_law_function.scope [] [] (He.fAd K d_law_function.at_) fd := T.says.d.def_ 13 rfl
theorem TX.d_is_table (T : TX P K mg) : ∃ fd, FunD K d_is_table.name d_is_table.qual d_is_table.params d_is_table.body d_is_table.scope [] [] (He.fAd K d_is_table.at_) fd := T.says.d.def_ 14 rfl
theorem TX.d_IncidenceU_initU (T : TX P K mg) : ∃ fd, FunD K d_IncidenceU_initU.name d_IncidenceU_initU.qual d_IncidenceU_initU.params d_IncidenceU_initU.body d_IncidenceU_initU.scope [] [] (He.fAd K d_IncidenceU_initU.at_) fd := T.says.d.def_ 15 rfl
theorem TX.d_OrderU_eqU (T : TX P K mg) : ∃ fd, FunD K d_OrderU_eqU.name d_OrderU_eqU.qual d_OrderU_eqU.params d_OrderU_eqU.body d_OrderU_eqU.scope [] [] (He.fAd K d_OrderU_eqU.at_) fd := T.says.d.def_ 16 rfl
theorem TX.d_IncidenceU_eqU (T : TX P K mg) : ∃ fd, FunD K d_IncidenceU_eqU.name d_IncidenceU_eqU.qual d_IncidenceU_eqU.params d_IncidenceU_eqU.body d_IncidenceU_eqU.scope [] [] (He.fAd K d_IncidenceU_eqU.at_) fd := T.says.d.def_ 17 rfl
theorem TX.d_check_same (T : TX P K mg) : ∃ fd, FunD K d_check_same.name d_check_same.qual d_check_same.params d_check_same.body d_check_same.scope [] [] (He.fAd K d_check_same.at_) fd := T.says.d.def_ 18 rfl
theorem TX.d_IncidenceU_mulU (T : TX P K mg) : ∃ fd, FunD K d_IncidenceU_mulU.name d_IncidenceU_mulU.qual d_IncidenceU_mulU.params d_IncidenceU_mulU.body d_IncidenceU_mulU.scope [] [] (He.fAd K d_IncidenceU_mulU.at_) fd := T.says.d.def_ 19 rfl
theorem TX.d_IncidenceU_addU (T : TX P K mg) : ∃ fd, FunD K d_IncidenceU_addU.name d_IncidenceU_addU.qual d_IncidenceU_addU.params d_IncidenceU_addU.body d_IncidenceU_addU.scope [] [] (He.fAd K d_IncidenceU_addU.at_) fd := T.says.d.def_ 20 rfl
theorem TX.d_IncidenceU_negU (T : TX P K mg) : ∃ fd, FunD K d_IncidenceU_negU.name d_IncidenceU_negU.qual d_IncidenceU_negU.params d_IncidenceU_negU.body d_IncidenceU_negU.scope [] [] (He.fAd K d_IncidenceU_negU.at_) fd := T.says.d.def_ 21 rfl
theorem TX.d_IncidenceU_subU (T : TX P K mg) : ∃ fd, FunD K d_IncidenceU_subU.name d_IncidenceU_subU.qual d_IncidenceU_subU.params d_IncidenceU_subU.body d_IncidenceU_subU.scope [] [] (He.fAd K d_IncidenceU_subU.at_) fd := T.says.d.def_ 22 rfl
theorem TX.d_law_unlike (T : TX P K mg) : ∃ fd, FunD K d_law_unlike.name d_law_unlike.qual d_law_unlike.params d_law_unlike.body d_law_unlike.scope [] [] (He.fAd K d_law_unlike.at_) fd := T.says.d.def_ 23 rfl
theorem TX.d_law_refuses (T : TX P K mg) : ∃ fd, FunD K d_law_refuses.name d_law_refuses.qual d_law_refuses.params d_law_refuses.body d_law_refuses.scope [] [] (He.fAd K d_law_refuses.at_) fd := T.says.d.def_ 24 rfl
theorem TX.d_law_times (T : TX P K mg) : ∃ fd, FunD K d_law_times.name d_law_times.qual d_law_times.params d_law_times.body d_law_times.scope [] [] (He.fAd K d_law_times.at_) fd := T.says.d.def_ 25 rfl
theorem TX.d_delta (T : TX P K mg) : ∃ fd, FunD K d_delta.name d_delta.qual d_delta.params d_delta.body d_delta.scope [] [] (He.fAd K d_delta.at_) fd := T.says.d.def_ 26 rfl
theorem TX.d_Incidence_power (T : TX P K mg) : ∃ fd, FunD K d_Incidence_power.name d_Incidence_power.qual d_Incidence_power.params d_Incidence_power.body d_Incidence_power.scope [] [] (He.fAd K d_Incidence_power.at_) fd := T.says.d.def_ 27 rfl
theorem TX.d_Incidence_value (T : TX P K mg) : ∃ fd, FunD K d_Incidence_value.name d_Incidence_value.qual d_Incidence_value.params d_Incidence_value.body d_Incidence_value.scope [] [] (He.fAd K d_Incidence_value.at_) fd := T.says.d.def_ 28 rfl
theorem TX.d_Incidence_scaled (T : TX P K mg) : ∃ fd, FunD K d_Incidence_scaled.name d_Incidence_scaled.qual d_Incidence_scaled.params d_Incidence_scaled.body d_Incidence_scaled.scope [] [] (He.fAd K d_Incidence_scaled.at_) fd := T.says.d.def_ 29 rfl
theorem TX.d_law (T : TX P K mg) : ∃ fd, FunD K d_law.name d_law.qual d_law.params d_law.body d_law.scope [] [] (He.fAd K d_law.at_) fd := T.says.d.def_ 30 rfl
theorem TX.m_range (T : TX P K mg) : mg "range" = none := let ⟨_, X, G⟩ := T.ex; He.free_ok X G (T.says.d.fact 0 rfl)
theorem TX.m_len (T : TX P K mg) : mg "len" = none := let ⟨_, X, G⟩ := T.ex; He.free_ok X G (T.says.d.fact 1 rfl)
theorem TX.m_min (T : TX P K mg) : mg "min" = none := let ⟨_, X, G⟩ := T.ex; He.free_ok X G (T.says.d.fact 2 rfl)
theorem TX.m_abs (T : TX P K mg) : mg "abs" = none := let ⟨_, X, G⟩ := T.ex; He.free_ok X G (T.says.d.fact 3 rfl)
theorem TX.m_has (T : TX P K mg) : mg "has" = some (.ref (He.fAd K ("has", none))) ∧ PySem.W.keepIn K (.ref (He.fAd K ("has", none))) = true := let ⟨_, X, G⟩ := T.ex; ⟨He.glo_ok X G (T.says.d.fact 4 rfl), let ⟨_, F⟩ := T.d_has; F.kp⟩
theorem TX.m_Refused (T : TX P K mg) : mg "Refused" = some (.ref (He.ga K "Refused")) := let ⟨_, X, G⟩ := T.ex; He.glo_ok X G (T.says.d.fact 5 rfl)
theorem TX.m_super (T : TX P K mg) : mg "super" = none := let ⟨_, X, G⟩ := T.ex; He.free_ok X G (T.says.d.fact 6 rfl)
theorem TX.m_tuple (T : TX P K mg) : mg "tuple" = none := let ⟨_, X, G⟩ := T.ex; He.free_ok X G (T.says.d.fact 7 rfl)
theorem TX.m_isinstance (T : TX P K mg) : mg "isinstance" = none := let ⟨_, X, G⟩ := T.ex; He.free_ok X G (T.says.d.fact 8 rfl)
theorem TX.m_int (T : TX P K mg) : mg "int" = none := let ⟨_, X, G⟩ := T.ex; He.free_ok X G (T.says.d.fact 9 rfl)
theorem TX.m_bool (T : TX P K mg) : mg "bool" = none := let ⟨_, X, G⟩ := T.ex; He.free_ok X G (T.says.d.fact 10 rfl)
theorem TX.m_list (T : TX P K mg) : mg "list" = none := let ⟨_, X, G⟩ := T.ex; He.free_ok X G (T.says.d.fact 11 rfl)
theorem TX.m_Malformed (T : TX P K mg) : mg "Malformed" = some (.ref (He.ga K "Malformed")) := let ⟨_, X, G⟩ := T.ex; He.glo_ok X G (T.says.d.fact 12 rfl)
theorem TX.e_Malformed (T : TX P K mg) : DL.ExP K (He.ga K "Malformed") := let h := He.exc_ok (T.says.d.fact 13 rfl); ⟨h.1, h.2.1, h.2.2.1, h.2.2.2⟩
theorem TX.m_is_integer (T : TX P K mg) : mg "is_integer" = some (.ref (He.fAd K ("is_integer", none))) ∧ PySem.W.keepIn K (.ref (He.fAd K ("is_integer", none))) = true := let ⟨_, X, G⟩ := T.ex; ⟨He.glo_ok X G (T.says.d.fact 14 rfl), let ⟨_, F⟩ := T.d_is_integer; F.kp⟩
theorem TX.m_MOST (T : TX P K mg) : ∃ t, mg "MOST" = some (.int 10 t) := let ⟨_, X, G⟩ := T.ex; He.int_ok X G (T.says.d.fact 15 rfl)
theorem TX.c_Order (T : TX P K mg) : Cls K (He.ga K "Order") := He.cls_ok (T.says.d.fact 16 rfl)
theorem TX.n_Order_n (T : TX P K mg) : NoAttr K (He.ga K "Order") "n" := He.noat_ok (T.says.d.fact 17 rfl)
theorem TX.m__closed (T : TX P K mg) : mg "_closed" = some (.ref (He.fAd K ("_closed", none))) ∧ PySem.W.keepIn K (.ref (He.fAd K ("_closed", none))) = true := let ⟨_, X, G⟩ := T.ex; ⟨He.glo_ok X G (T.says.d.fact 18 rfl), let ⟨_, F⟩ := T.d_u_closed; F.kp⟩
theorem TX.m__checked_pairs (T : TX P K mg) : mg "_checked_pairs" = some (.ref (He.fAd K ("_checked_pairs", none))) ∧ PySem.W.keepIn K (.ref (He.fAd K ("_checked_pairs", none))) = true := let ⟨_, X, G⟩ := T.ex; ⟨He.glo_ok X G (T.says.d.fact 19 rfl), let ⟨_, F⟩ := T.d_u_checked_pairs; F.kp⟩
theorem TX.n_Order_above (T : TX P K mg) : NoAttr K (He.ga K "Order") "above" := He.noat_ok (T.says.d.fact 20 rfl)
theorem TX.m__law_next (T : TX P K mg) : mg "_law_next" = some (.ref (He.fAd K ("_law_next", none))) ∧ PySem.W.keepIn K (.ref (He.fAd K ("_law_next", none))) = true := let ⟨_, X, G⟩ := T.ex; ⟨He.glo_ok X G (T.says.d.fact 21 rfl), let ⟨_, F⟩ := T.d_law_next; F.kp⟩
theorem TX.m_Order (T : TX P K mg) : mg "Order" = some (.ref (He.ga K "Order")) := let ⟨_, X, G⟩ := T.ex; He.glo_ok X G (T.says.d.fact 22 rfl)
theorem TX.k_Order (T : TX P K mg) : Mk K (He.ga K "Order") (He.fAd K ("Order", some "__init__")) := He.mkr_ok (T.says.d.fact 23 rfl)
theorem TX.m_members (T : TX P K mg) : mg "members" = some (.ref (He.fAd K ("members", none))) ∧ PySem.W.keepIn K (.ref (He.fAd K ("members", none))) = true := let ⟨_, X, G⟩ := T.ex; ⟨He.glo_ok X G (T.says.d.fact 24 rfl), let ⟨_, F⟩ := T.d_members; F.kp⟩
theorem TX.q_Order_size (T : TX P K mg) : Meth K (He.ga K "Order") "size" (He.fAd K ("Order", some "size")) := He.meth_ok (T.says.d.fact 25 rfl)
theorem TX.q_Order_pairs (T : TX P K mg) : Meth K (He.ga K "Order") "pairs" (He.fAd K ("Order", some "pairs")) := He.meth_ok (T.says.d.fact 26 rfl)
theorem TX.q_Order_at_most (T : TX P K mg) : Meth K (He.ga K "Order") "at_most" (He.fAd K ("Order", some "at_most")) := He.meth_ok (T.says.d.fact 27 rfl)
theorem TX.m_is_table (T : TX P K mg) : mg "is_table" = some (.ref (He.fAd K ("is_table", none))) ∧ PySem.W.keepIn K (.ref (He.fAd K ("is_table", none))) = true := let ⟨_, X, G⟩ := T.ex; ⟨He.glo_ok X G (T.says.d.fact 28 rfl), let ⟨_, F⟩ := T.d_is_table; F.kp⟩
theorem TX.c_Incidence (T : TX P K mg) : Cls K (He.ga K "Incidence") := He.cls_ok (T.says.d.fact 29 rfl)
theorem TX.n_Incidence_order (T : TX P K mg) : NoAttr K (He.ga K "Incidence") "order" := He.noat_ok (T.says.d.fact 30 rfl)
theorem TX.n_Incidence_rows (T : TX P K mg) : NoAttr K (He.ga K "Incidence") "rows" := He.noat_ok (T.says.d.fact 31 rfl)
theorem TX.m_Incidence (T : TX P K mg) : mg "Incidence" = some (.ref (He.ga K "Incidence")) := let ⟨_, X, G⟩ := T.ex; He.glo_ok X G (T.says.d.fact 32 rfl)
theorem TX.q_OrderU_eqU (T : TX P K mg) : Meth K (He.ga K "Order") "__eq__" (He.fAd K ("Order", some "__eq__")) := He.meth_ok (T.says.d.fact 33 rfl)
theorem TX.m_check_same (T : TX P K mg) : mg "check_same" = some (.ref (He.fAd K ("check_same", none))) ∧ PySem.W.keepIn K (.ref (He.fAd K ("check_same", none))) = true := let ⟨_, X, G⟩ := T.ex; ⟨He.glo_ok X G (T.says.d.fact 34 rfl), let ⟨_, F⟩ := T.d_check_same; F.kp⟩
theorem TX.m_sum (T : TX P K mg) : mg "sum" = none := let ⟨_, X, G⟩ := T.ex; He.free_ok X G (T.says.d.fact 35 rfl)
theorem TX.k_Incidence (T : TX P K mg) : Mk K (He.ga K "Incidence") (He.fAd K ("Incidence", some "__init__")) := He.mkr_ok (T.says.d.fact 36 rfl)
theorem TX.q_IncidenceU_addU (T : TX P K mg) : Meth K (He.ga K "Incidence") "__add__" (He.fAd K ("Incidence", some "__add__")) := He.meth_ok (T.says.d.fact 37 rfl)
theorem TX.q_IncidenceU_negU (T : TX P K mg) : Meth K (He.ga K "Incidence") "__neg__" (He.fAd K ("Incidence", some "__neg__")) := He.meth_ok (T.says.d.fact 38 rfl)
theorem TX.q_IncidenceU_mulU (T : TX P K mg) : Meth K (He.ga K "Incidence") "__mul__" (He.fAd K ("Incidence", some "__mul__")) := He.meth_ok (T.says.d.fact 39 rfl)
theorem TX.xm_Malformed_Malformed (T : TX P K mg) : PySem.W.exmOne K (.ref (He.ga K "Malformed")) (.ref (He.ga K "Malformed")) = some true := He.exm_ok (T.says.d.fact 40 rfl)
theorem TX.xm_Refused_Malformed (T : TX P K mg) : PySem.W.exmOne K (.ref (He.ga K "Refused")) (.ref (He.ga K "Malformed")) = some false := He.exm_ok (T.says.d.fact 41 rfl)
theorem TX.q_IncidenceU_subU (T : TX P K mg) : Meth K (He.ga K "Incidence") "__sub__" (He.fAd K ("Incidence", some "__sub__")) := He.meth_ok (T.says.d.fact 42 rfl)
theorem TX.m_delta (T : TX P K mg) : mg "delta" = some (.ref (He.fAd K ("delta", none))) ∧ PySem.W.keepIn K (.ref (He.fAd K ("delta", none))) = true := let ⟨_, X, G⟩ := T.ex; ⟨He.glo_ok X G (T.says.d.fact 43 rfl), let ⟨_, F⟩ := T.d_delta; F.kp⟩
theorem TX.m__law_numbers (T : TX P K mg) : mg "_law_numbers" = some (.ref (He.fAd K ("_law_numbers", none))) ∧ PySem.W.keepIn K (.ref (He.fAd K ("_law_numbers", none))) = true := let ⟨_, X, G⟩ := T.ex; ⟨He.glo_ok X G (T.says.d.fact 44 rfl), let ⟨_, F⟩ := T.d_law_numbers; F.kp⟩
theorem TX.m__law_order (T : TX P K mg) : mg "_law_order" = some (.ref (He.fAd K ("_law_order", none))) ∧ PySem.W.keepIn K (.ref (He.fAd K ("_law_order", none))) = true := let ⟨_, X, G⟩ := T.ex; ⟨He.glo_ok X G (T.says.d.fact 45 rfl), let ⟨_, F⟩ := T.d_law_order; F.kp⟩
theorem TX.m__law_table (T : TX P K mg) : mg "_law_table" = some (.ref (He.fAd K ("_law_table", none))) ∧ PySem.W.keepIn K (.ref (He.fAd K ("_law_table", none))) = true := let ⟨_, X, G⟩ := T.ex; ⟨He.glo_ok X G (T.says.d.fact 46 rfl), let ⟨_, F⟩ := T.d_law_table; F.kp⟩
theorem TX.m__law_function (T : TX P K mg) : mg "_law_function" = some (.ref (He.fAd K ("_law_function", none))) ∧ PySem.W.keepIn K (.ref (He.fAd K ("_law_function", none))) = true := let ⟨_, X, G⟩ := T.ex; ⟨He.glo_ok X G (T.says.d.fact 47 rfl), let ⟨_, F⟩ := T.d_law_function; F.kp⟩
theorem TX.m__law_times (T : TX P K mg) : mg "_law_times" = some (.ref (He.fAd K ("_law_times", none))) ∧ PySem.W.keepIn K (.ref (He.fAd K ("_law_times", none))) = true := let ⟨_, X, G⟩ := T.ex; ⟨He.glo_ok X G (T.says.d.fact 48 rfl), let ⟨_, F⟩ := T.d_law_times; F.kp⟩
theorem TX.q_IncidenceU_eqU (T : TX P K mg) : Meth K (He.ga K "Incidence") "__eq__" (He.fAd K ("Incidence", some "__eq__")) := He.meth_ok (T.says.d.fact 49 rfl)
theorem TX.q_Incidence_value (T : TX P K mg) : Meth K (He.ga K "Incidence") "value" (He.fAd K ("Incidence", some "value")) := He.meth_ok (T.says.d.fact 50 rfl)
theorem TX.q_Incidence_scaled (T : TX P K mg) : Meth K (He.ga K "Incidence") "scaled" (He.fAd K ("Incidence", some "scaled")) := He.meth_ok (T.says.d.fact 51 rfl)
theorem TX.q_Incidence_power (T : TX P K mg) : Meth K (He.ga K "Incidence") "power" (He.fAd K ("Incidence", some "power")) := He.meth_ok (T.says.d.fact 52 rfl)
theorem TX.m__law_refuses (T : TX P K mg) : mg "_law_refuses" = some (.ref (He.fAd K ("_law_refuses", none))) ∧ PySem.W.keepIn K (.ref (He.fAd K ("_law_refuses", none))) = true := let ⟨_, X, G⟩ := T.ex; ⟨He.glo_ok X G (T.says.d.fact 53 rfl), let ⟨_, F⟩ := T.d_law_refuses; F.kp⟩
theorem TX.m__law_unlike (T : TX P K mg) : mg "_law_unlike" = some (.ref (He.fAd K ("_law_unlike", none))) ∧ PySem.W.keepIn K (.ref (He.fAd K ("_law_unlike", none))) = true := let ⟨_, X, G⟩ := T.ex; ⟨He.glo_ok X G (T.says.d.fact 54 rfl), let ⟨_, F⟩ := T.d_law_unlike; F.kp⟩
theorem TX.x_Order (T : TX P K mg) : DL.ClsX K (He.ga K "Order") := DL.clsXB_ok (T.says.y 0 rfl)
theorem TX.kn_Order (T : TX P K mg) : DL.KitN K (He.ga K "Order") := DL.kitNB_ok (T.says.y 1 rfl)
theorem TX.x_Incidence (T : TX P K mg) : DL.ClsX K (He.ga K "Incidence") := DL.clsXB_ok (T.says.y 2 rfl)
theorem TX.kn_Incidence (T : TX P K mg) : DL.KitN K (He.ga K "Incidence") := DL.kitNB_ok (T.says.y 3 rfl)
theorem TX.sf_Incidence (T : TX P K mg) : PySem.W.selfFirst K (He.ga K "Incidence") = true := id (T.says.y 4 rfl)
theorem TX.r_Refused (T : TX P K mg) (w : World) (base : Heap) : DL.ExS P w K mg base (He.ga K "Refused") "reason" DL.okStr := let ⟨_, _, _, S, F⟩ := T.says.e 0 rfl T.pf T.pt; exS_str (p := "reason") S F T.m_super (by kernel_rfl) (by kernel_rfl) (by kernel_rfl) (by kernel_rfl) ⟨by kernel_rfl, by kernel_rfl⟩ (fun doc pm ctv us hl => match us, hl with | [_, _], _ => by kernel_rfl)
end
theorem sc_law_numbers : FnScope ["_law_script", "_law_found", "_law_k", "_law_cell", "_law_turn", "_law_i", "_law_mixed"] ["_law_script"] (defScope s_law_numbers) := ⟨by kernel_rfl, by kernel_rfl, by kernel_rfl, by decide +kernel, by kernel_rfl, by decide +kernel, by decide +kernel⟩
theorem bi_law_numbers (kV doc pm : Value) (an : Option Addr) (cdv ct : Value) (us : List Value) (hl : us.length = (["_law_script"] : List Str).length) : bindArgs (PySem.W.fnOf "_law_numbers" "_law_numbers" (defArgs s_law_numbers) (defBody s_law_numbers) (defScope s_law_numbers) .none kV doc pm an cdv ct) ⟨us, []⟩ = pure ((["_law_script"] : List Str).zip us) := match us, hl with | [_], _ => by kernel_rfl
theorem sc_law_next : FnScope ["_law_numbers_here", "_law_many"] ["_law_numbers_here", "_law_many"] (defScope s_law_next) := ⟨by kernel_rfl, by kernel_rfl, by kernel_rfl, by decide +kernel, by kernel_rfl, by decide +kernel, by decide +kernel⟩
theorem bi_law_next (kV doc pm : Value) (an : Option Addr) (cdv ct : Value) (us : List Value) (hl : us.length = (["_law_numbers_here", "_law_many"] : List Str).length) : bindArgs (PySem.W.fnOf "_law_next" "_law_next" (defArgs s_law_next) (defBody s_law_next) (defScope s_law_next) .none kV doc pm an cdv ct) ⟨us, []⟩ = pure ((["_law_numbers_here", "_law_many"] : List Str).zip us) := match us, hl with | [_, _], _ => by kernel_rfl
theorem sc_has : FnScope ["bits", "x"] ["bits", "x"] (defScope s_has) := ⟨by kernel_rfl, by kernel_rfl, by kernel_rfl, by decide +kernel, by kernel_rfl, by decide +kernel, by decide +kernel⟩
theorem bi_has (kV doc pm : Value) (an : Option Addr) (cdv ct : Value) (us : List Value) (hl : us.length = (["bits", "x"] : List Str).length) : bindArgs (PySem.W.fnOf "has" "has" (defArgs s_has) (defBody s_has) (defScope s_has) .none kV doc pm an cdv ct) ⟨us, []⟩ = pure ((["bits", "x"] : List Str).zip us) := match us, hl with | [_, _], _ => by kernel_rfl
theorem sc_u_closed : FnScope ["n", "pairs", "above", "x", "y"] ["n", "pairs"] (defScope s_u_closed) := ⟨by kernel_rfl, by kernel_rfl, by kernel_rfl, by decide +kernel, by kernel_rfl, by decide +kernel, by decide +kernel⟩
theorem bi_u_closed (kV doc pm : Value) (an : Option Addr) (cdv ct : Value) (us : List Value) (hl : us.length = (["n", "pairs"] : List Str).length) : bindArgs (PySem.W.fnOf "_closed" "_closed" (defArgs s_u_closed) (defBody s_u_closed) (defScope s_u_closed) .none kV doc pm an cdv ct) ⟨us, []⟩ = pure ((["n", "pairs"] : List Str).zip us) := match us, hl with | [_, _], _ => by kernel_rfl
theorem sc_is_integer : FnScope ["value"] ["value"] (defScope s_is_integer) := ⟨by kernel_rfl, by kernel_rfl, by kernel_rfl, by decide +kernel, by kernel_rfl, by decide +kernel, by decide +kernel⟩
theorem bi_is_integer (kV doc pm : Value) (an : Option Addr) (cdv ct : Value) (us : List Value) (hl : us.length = (["value"] : List Str).length) : bindArgs (PySem.W.fnOf "is_integer" "is_integer" (defArgs s_is_integer) (defBody s_is_integer) (defScope s_is_integer) .none kV doc pm an cdv ct) ⟨us, []⟩ = pure ((["value"] : List Str).zip us) := match us, hl with | [_], _ => by kernel_rfl
theorem sc_u_checked_pairs : FnScope ["n", "pairs", "out", "pair", "x"] ["n", "pairs"] (defScope s_u_checked_pairs) := ⟨by kernel_rfl, by kernel_rfl, by kernel_rfl, by decide +kernel, by kernel_rfl, by decide +kernel, by decide +kernel⟩
theorem bi_u_checked_pairs (kV doc pm : Value) (an : Option Addr) (cdv ct : Value) (us : List Value) (hl : us.length = (["n", "pairs"] : List Str).length) : bindArgs (PySem.W.fnOf "_checked_pairs" "_checked_pairs" (defArgs s_u_checked_pairs) (defBody s_u_checked_pairs) (defScope s_u_checked_pairs) .none kV doc pm an cdv ct) ⟨us, []⟩ = pure ((["n", "pairs"] : List Str).zip us) := match us, hl with | [_, _], _ => by kernel_rfl
theorem sc_OrderU_initU : FnScope ["self", "n", "pairs"] ["self", "n", "pairs"] (defScope s_OrderU_initU) := ⟨by kernel_rfl, by kernel_rfl, by kernel_rfl, by decide +kernel, by kernel_rfl, by decide +kernel, by decide +kernel⟩
theorem bi_OrderU_initU (kV doc pm : Value) (an : Option Addr) (cdv ct : Value) (us : List Value) (hl : us.length = (["self", "n", "pairs"] : List Str).length) : bindArgs (PySem.W.fnOf "__init__" "Order.__init__" (defArgs s_OrderU_initU) (defBody s_OrderU_initU) (defScope s_OrderU_initU) .none kV doc pm an cdv ct) ⟨us, []⟩ = pure ((["self", "n", "pairs"] : List Str).zip us) := match us, hl with | [_, _, _], _ => by kernel_rfl
theorem sc_law_order : FnScope ["_law_numbers_here", "_law_most", "_law_n", "_law_images", "_law_rest", "_law_turn", "_law_thick", "_law_pairs", "_law_i", "_law_j", "_law_k"] ["_law_numbers_here", "_law_most"] (defScope s_law_order) := ⟨by kernel_rfl, by kernel_rfl, by kernel_rfl, by decide +kernel, by kernel_rfl, by decide +kernel, by decide +kernel⟩
theorem bi_law_order (kV doc pm : Value) (an : Option Addr) (cdv ct : Value) (us : List Value) (hl : us.length = (["_law_numbers_here", "_law_most"] : List Str).length) : bindArgs (PySem.W.fnOf "_law_order" "_law_order" (defArgs s_law_order) (defBody s_law_order) (defScope s_law_order) .none kV doc pm an cdv ct) ⟨us, []⟩ = pure ((["_law_numbers_here", "_law_most"] : List Str).zip us) := match us, hl with | [_, _], _ => by kernel_rfl
theorem sc_Order_size : FnScope ["self"] ["self"] (defScope s_Order_size) := ⟨by kernel_rfl, by kernel_rfl, by kernel_rfl, by decide +kernel, by kernel_rfl, by decide +kernel, by decide +kernel⟩
theorem bi_Order_size (kV doc pm : Value) (an : Option Addr) (cdv ct : Value) (us : List Value) (hl : us.length = (["self"] : List Str).length) : bindArgs (PySem.W.fnOf "size" "Order.size" (defArgs s_Order_size) (defBody s_Order_size) (defScope s_Order_size) .none kV doc pm an cdv ct) ⟨us, []⟩ = pure ((["self"] : List Str).zip us) := match us, hl with | [_], _ => by kernel_rfl
theorem sc_members : FnScope ["bits", "x"] ["bits"] (defScope s_members) := ⟨by kernel_rfl, by kernel_rfl, by kernel_rfl, by decide +kernel, by kernel_rfl, by decide +kernel, by decide +kernel⟩
theorem bi_members (kV doc pm : Value) (an : Option Addr) (cdv ct : Value) (us : List Value) (hl : us.length = (["bits"] : List Str).length) : bindArgs (PySem.W.fnOf "members" "members" (defArgs s_members) (defBody s_members) (defScope s_members) .none kV doc pm an cdv ct) ⟨us, []⟩ = pure ((["bits"] : List Str).zip us) := match us, hl with | [_], _ => by kernel_rfl
theorem sc_Order_pairs : FnScope ["self", "out", "x", "y"] ["self"] (defScope s_Order_pairs) := ⟨by kernel_rfl, by kernel_rfl, by kernel_rfl, by decide +kernel, by kernel_rfl, by decide +kernel, by decide +kernel⟩
theorem bi_Order_pairs (kV doc pm : Value) (an : Option Addr) (cdv ct : Value) (us : List Value) (hl : us.length = (["self"] : List Str).length) : bindArgs (PySem.W.fnOf "pairs" "Order.pairs" (defArgs s_Order_pairs) (defBody s_Order_pairs) (defScope s_Order_pairs) .none kV doc pm an cdv ct) ⟨us, []⟩ = pure ((["self"] : List Str).zip us) := match us, hl with | [_], _ => by kernel_rfl
theorem sc_law_table : FnScope ["_law_order_here", "_law_n", "_law_table_here", "_law_x", "_law_y"] ["_law_order_here"] (defScope s_law_table) := ⟨by kernel_rfl, by kernel_rfl, by kernel_rfl, by decide +kernel, by kernel_rfl, by decide +kernel, by decide +kernel⟩
theorem bi_law_table (kV doc pm : Value) (an : Option Addr) (cdv ct : Value) (us : List Value) (hl : us.length = (["_law_order_here"] : List Str).length) : bindArgs (PySem.W.fnOf "_law_table" "_law_table" (defArgs s_law_table) (defBody s_law_table) (defScope s_law_table) .none kV doc pm an cdv ct) ⟨us, []⟩ = pure ((["_law_order_here"] : List Str).zip us) := match us, hl with | [_], _ => by kernel_rfl
theorem sc_Order_at_most : FnScope ["self", "x", "y"] ["self", "x", "y"] (defScope s_Order_at_most) := ⟨by kernel_rfl, by kernel_rfl, by kernel_rfl, by decide +kernel, by kernel_rfl, by decide +kernel, by decide +kernel⟩
theorem bi_Order_at_most (kV doc pm : Value) (an : Option Addr) (cdv ct : Value) (us : List Value) (hl : us.length = (["self", "x", "y"] : List Str).length) : bindArgs (PySem.W.fnOf "at_most" "Order.at_most" (defArgs s_Order_at_most) (defBody s_Order_at_most) (defScope s_Order_at_most) .none kV doc pm an cdv ct) ⟨us, []⟩ = pure ((["self", "x", "y"] : List Str).zip us) := match us, hl with | [_, _, _], _ => by kernel_rfl
theorem sc_law_function : FnScope ["_law_order_here", "_law_numbers_here", "_law_n", "_law_rows", "_law_x", "_law_row", "_law_y", "_law_value"] ["_law_order_here", "_law_numbers_here"] (defScope s_law_function) := ⟨by kernel_rfl, by kernel_rfl, by kernel_rfl, by decide +kernel, by kernel_rfl, by decide +kernel, by decide +kernel⟩
theorem bi_law_function (kV doc pm : Value) (an : Option Addr) (cdv ct : Value) (us : List Value) (hl : us.length = (["_law_order_here", "_law_numbers_here"] : List Str).length) : bindArgs (PySem.W.fnOf "_law_function" "_law_function" (defArgs s_law_function) (defBody s_law_function) (defScope s_law_function) .none kV doc pm an cdv ct) ⟨us, []⟩ = pure ((["_law_order_here", "_law_numbers_here"] : List Str).zip us) := match us, hl with | [_, _], _ => by kernel_rfl
theorem sc_is_table : FnScope ["order", "rows", "size", "x", "y"] ["order", "rows"] (defScope s_is_table) := ⟨by kernel_rfl, by kernel_rfl, by kernel_rfl, by decide +kernel, by kernel_rfl, by decide +kernel, by decide +kernel⟩
theorem bi_is_table (kV doc pm : Value) (an : Option Addr) (cdv ct : Value) (us : List Value) (hl : us.length = (["order", "rows"] : List Str).length) : bindArgs (PySem.W.fnOf "is_table" "is_table" (defArgs s_is_table) (defBody s_is_table) (defScope s_is_table) .none kV doc pm an cdv ct) ⟨us, []⟩ = pure ((["order", "rows"] : List Str).zip us) := match us, hl with | [_, _], _ => by kernel_rfl
theorem sc_IncidenceU_initU : FnScope ["self", "order", "rows", "row"] ["self", "order", "rows"] (defScope s_IncidenceU_initU) := ⟨by kernel_rfl, by kernel_rfl, by kernel_rfl, by decide +kernel, by kernel_rfl, by decide +kernel, by decide +kernel⟩
theorem bi_IncidenceU_initU (kV doc pm : Value) (an : Option Addr) (cdv ct : Value) (us : List Value) (hl : us.length = (["self", "order", "rows"] : List Str).length) : bindArgs (PySem.W.fnOf "__init__" "Incidence.__init__" (defArgs s_IncidenceU_initU) (defBody s_IncidenceU_initU) (defScope s_IncidenceU_initU) .none kV doc pm an cdv ct) ⟨us, []⟩ = pure ((["self", "order", "rows"] : List Str).zip us) := match us, hl with | [_, _, _], _ => by kernel_rfl
theorem sc_OrderU_eqU : FnScope ["self", "other"] ["self", "other"] (defScope s_OrderU_eqU) := ⟨by kernel_rfl, by kernel_rfl, by kernel_rfl, by decide +kernel, by kernel_rfl, by decide +kernel, by decide +kernel⟩
theorem bi_OrderU_eqU (kV doc pm : Value) (an : Option Addr) (cdv ct : Value) (us : List Value) (hl : us.length = (["self", "other"] : List Str).length) : bindArgs (PySem.W.fnOf "__eq__" "Order.__eq__" (defArgs s_OrderU_eqU) (defBody s_OrderU_eqU) (defScope s_OrderU_eqU) .none kV doc pm an cdv ct) ⟨us, []⟩ = pure ((["self", "other"] : List Str).zip us) := match us, hl with | [_, _], _ => by kernel_rfl
theorem sc_IncidenceU_eqU : FnScope ["self", "other"] ["self", "other"] (defScope s_IncidenceU_eqU) := ⟨by kernel_rfl, by kernel_rfl, by kernel_rfl, by decide +kernel, by kernel_rfl, by decide +kernel, by decide +kernel⟩
theorem bi_IncidenceU_eqU (kV doc pm : Value) (an : Option Addr) (cdv ct : Value) (us : List Value) (hl : us.length = (["self", "other"] : List Str).length) : bindArgs (PySem.W.fnOf "__eq__" "Incidence.__eq__" (defArgs s_IncidenceU_eqU) (defBody s_IncidenceU_eqU) (defScope s_IncidenceU_eqU) .none kV doc pm an cdv ct) ⟨us, []⟩ = pure ((["self", "other"] : List Str).zip us) := match us, hl with | [_, _], _ => by kernel_rfl
theorem sc_check_same : FnScope ["one", "two"] ["one", "two"] (defScope s_check_same) := ⟨by kernel_rfl, by kernel_rfl, by kernel_rfl, by decide +kernel, by kernel_rfl, by decide +kernel, by decide +kernel⟩
theorem bi_check_same (kV doc pm : Value) (an : Option Addr) (cdv ct : Value) (us : List Value) (hl : us.length = (["one", "two"] : List Str).length) : bindArgs (PySem.W.fnOf "check_same" "check_same" (defArgs s_check_same) (defBody s_check_same) (defScope s_check_same) .none kV doc pm an cdv ct) ⟨us, []⟩ = pure ((["one", "two"] : List Str).zip us) := match us, hl with | [_, _], _ => by kernel_rfl
theorem sc_IncidenceU_mulU : FnScope ["self", "other", "size", "rows", "x", "row", "y", "z"] ["self", "other"] (defScope s_IncidenceU_mulU) := ⟨by kernel_rfl, by kernel_rfl, by kernel_rfl, by decide +kernel, by kernel_rfl, by decide +kernel, by decide +kernel⟩
theorem bi_IncidenceU_mulU (kV doc pm : Value) (an : Option Addr) (cdv ct : Value) (us : List Value) (hl : us.length = (["self", "other"] : List Str).length) : bindArgs (PySem.W.fnOf "__mul__" "Incidence.__mul__" (defArgs s_IncidenceU_mulU) (defBody s_IncidenceU_mulU) (defScope s_IncidenceU_mulU) .none kV doc pm an cdv ct) ⟨us, []⟩ = pure ((["self", "other"] : List Str).zip us) := match us, hl with | [_, _], _ => by kernel_rfl
theorem sc_IncidenceU_addU : FnScope ["self", "other", "size", "x", "y"] ["self", "other"] (defScope s_IncidenceU_addU) := ⟨by kernel_rfl, by kernel_rfl, by kernel_rfl, by decide +kernel, by kernel_rfl, by decide +kernel, by decide +kernel⟩
theorem bi_IncidenceU_addU (kV doc pm : Value) (an : Option Addr) (cdv ct : Value) (us : List Value) (hl : us.length = (["self", "other"] : List Str).length) : bindArgs (PySem.W.fnOf "__add__" "Incidence.__add__" (defArgs s_IncidenceU_addU) (defBody s_IncidenceU_addU) (defScope s_IncidenceU_addU) .none kV doc pm an cdv ct) ⟨us, []⟩ = pure ((["self", "other"] : List Str).zip us) := match us, hl with | [_, _], _ => by kernel_rfl
theorem sc_IncidenceU_negU : FnScope ["self", "row", "value"] ["self"] (defScope s_IncidenceU_negU) := ⟨by kernel_rfl, by kernel_rfl, by kernel_rfl, by decide +kernel, by kernel_rfl, by decide +kernel, by decide +kernel⟩
theorem bi_IncidenceU_negU (kV doc pm : Value) (an : Option Addr) (cdv ct : Value) (us : List Value) (hl : us.length = (["self"] : List Str).length) : bindArgs (PySem.W.fnOf "__neg__" "Incidence.__neg__" (defArgs s_IncidenceU_negU) (defBody s_IncidenceU_negU) (defScope s_IncidenceU_negU) .none kV doc pm an cdv ct) ⟨us, []⟩ = pure ((["self"] : List Str).zip us) := match us, hl with | [_], _ => by kernel_rfl
theorem sc_IncidenceU_subU : FnScope ["self", "other"] ["self", "other"] (defScope s_IncidenceU_subU) := ⟨by kernel_rfl, by kernel_rfl, by kernel_rfl, by decide +kernel, by kernel_rfl, by decide +kernel, by decide +kernel⟩
theorem bi_IncidenceU_subU (kV doc pm : Value) (an : Option Addr) (cdv ct : Value) (us : List Value) (hl : us.length = (["self", "other"] : List Str).length) : bindArgs (PySem.W.fnOf "__sub__" "Incidence.__sub__" (defArgs s_IncidenceU_subU) (defBody s_IncidenceU_subU) (defScope s_IncidenceU_subU) .none kV doc pm an cdv ct) ⟨us, []⟩ = pure ((["self", "other"] : List Str).zip us) := match us, hl with | [_, _], _ => by kernel_rfl
theorem sc_law_unlike : FnScope ["_law_f", "_law_g", "_law_told"] ["_law_f", "_law_g"] (defScope s_law_unlike) := ⟨by kernel_rfl, by kernel_rfl, by kernel_rfl, by decide +kernel, by kernel_rfl, by decide +kernel, by decide +kernel⟩
theorem bi_law_unlike (kV doc pm : Value) (an : Option Addr) (cdv ct : Value) (us : List Value) (hl : us.length = (["_law_f", "_law_g"] : List Str).length) : bindArgs (PySem.W.fnOf "_law_unlike" "_law_unlike" (defArgs s_law_unlike) (defBody s_law_unlike) (defScope s_law_unlike) .none kV doc pm an cdv ct) ⟨us, []⟩ = pure ((["_law_f", "_law_g"] : List Str).zip us) := match us, hl with | [_, _], _ => by kernel_rfl
theorem sc_law_refuses : FnScope ["_law_order_here", "_law_rows"] ["_law_order_here", "_law_rows"] (defScope s_law_refuses) := ⟨by kernel_rfl, by kernel_rfl, by kernel_rfl, by decide +kernel, by kernel_rfl, by decide +kernel, by decide +kernel⟩
theorem bi_law_refuses (kV doc pm : Value) (an : Option Addr) (cdv ct : Value) (us : List Value) (hl : us.length = (["_law_order_here", "_law_rows"] : List Str).length) : bindArgs (PySem.W.fnOf "_law_refuses" "_law_refuses" (defArgs s_law_refuses) (defBody s_law_refuses) (defScope s_law_refuses) .none kV doc pm an cdv ct) ⟨us, []⟩ = pure ((["_law_order_here", "_law_rows"] : List Str).zip us) := match us, hl with | [_, _], _ => by kernel_rfl
theorem sc_law_times : FnScope ["_law_table_here", "_law_f", "_law_g", "_law_n", "_law_found", "_law_x", "_law_row", "_law_y", "_law_total", "_law_z"] ["_law_table_here", "_law_f", "_law_g"] (defScope s_law_times) := ⟨by kernel_rfl, by kernel_rfl, by kernel_rfl, by decide +kernel, by kernel_rfl, by decide +kernel, by decide +kernel⟩
theorem bi_law_times (kV doc pm : Value) (an : Option Addr) (cdv ct : Value) (us : List Value) (hl : us.length = (["_law_table_here", "_law_f", "_law_g"] : List Str).length) : bindArgs (PySem.W.fnOf "_law_times" "_law_times" (defArgs s_law_times) (defBody s_law_times) (defScope s_law_times) .none kV doc pm an cdv ct) ⟨us, []⟩ = pure ((["_law_table_here", "_law_f", "_law_g"] : List Str).zip us) := match us, hl with | [_, _, _], _ => by kernel_rfl
theorem sc_delta : FnScope ["order", "size", "x", "y"] ["order"] (defScope s_delta) := ⟨by kernel_rfl, by kernel_rfl, by kernel_rfl, by decide +kernel, by kernel_rfl, by decide +kernel, by decide +kernel⟩
theorem bi_delta (kV doc pm : Value) (an : Option Addr) (cdv ct : Value) (us : List Value) (hl : us.length = (["order"] : List Str).length) : bindArgs (PySem.W.fnOf "delta" "delta" (defArgs s_delta) (defBody s_delta) (defScope s_delta) .none kV doc pm an cdv ct) ⟨us, []⟩ = pure ((["order"] : List Str).zip us) := match us, hl with | [_], _ => by kernel_rfl
theorem sc_Incidence_power : FnScope ["self", "k", "total", "_"] ["self", "k"] (defScope s_Incidence_power) := ⟨by kernel_rfl, by kernel_rfl, by kernel_rfl, by decide +kernel, by kernel_rfl, by decide +kernel, by decide +kernel⟩
theorem bi_Incidence_power (kV doc pm : Value) (an : Option Addr) (cdv ct : Value) (us : List Value) (hl : us.length = (["self", "k"] : List Str).length) : bindArgs (PySem.W.fnOf "power" "Incidence.power" (defArgs s_Incidence_power) (defBody s_Incidence_power) (defScope s_Incidence_power) .none kV doc pm an cdv ct) ⟨us, []⟩ = pure ((["self", "k"] : List Str).zip us) := match us, hl with | [_, _], _ => by kernel_rfl
theorem sc_Incidence_value : FnScope ["self", "x", "y"] ["self", "x", "y"] (defScope s_Incidence_value) := ⟨by kernel_rfl, by kernel_rfl, by kernel_rfl, by decide +kernel, by kernel_rfl, by decide +kernel, by decide +kernel⟩
theorem bi_Incidence_value (kV doc pm : Value) (an : Option Addr) (cdv ct : Value) (us : List Value) (hl : us.length = (["self", "x", "y"] : List Str).length) : bindArgs (PySem.W.fnOf "value" "Incidence.value" (defArgs s_Incidence_value) (defBody s_Incidence_value) (defScope s_Incidence_value) .none kV doc pm an cdv ct) ⟨us, []⟩ = pure ((["self", "x", "y"] : List Str).zip us) := match us, hl with | [_, _, _], _ => by kernel_rfl
theorem sc_Incidence_scaled : FnScope ["self", "k", "row", "value"] ["self", "k"] (defScope s_Incidence_scaled) := ⟨by kernel_rfl, by kernel_rfl, by kernel_rfl, by decide +kernel, by kernel_rfl, by decide +kernel, by decide +kernel⟩
theorem bi_Incidence_scaled (kV doc pm : Value) (an : Option Addr) (cdv ct : Value) (us : List Value) (hl : us.length = (["self", "k"] : List Str).length) : bindArgs (PySem.W.fnOf "scaled" "Incidence.scaled" (defArgs s_Incidence_scaled) (defBody s_Incidence_scaled) (defScope s_Incidence_scaled) .none kV doc pm an cdv ct) ⟨us, []⟩ = pure ((["self", "k"] : List Str).zip us) := match us, hl with | [_, _], _ => by kernel_rfl
theorem sc_law : FnScope ["_law_script", "_law_numbers_here", "_law_order_here", "_law_n", "_law_table_here", "_law_one", "_law_two", "_law_f", "_law_g", "_law_k", "_law_x", "_law_other", "_law_y", "_law_bent", "_law_row"] ["_law_script"] (defScope s_law) := ⟨by kernel_rfl, by kernel_rfl, by kernel_rfl, by decide +kernel, by kernel_rfl, by decide +kernel, by decide +kernel⟩
section
variable {P : Program} {w : World} {K : PySem.W.Frag} {mg : Str → Option Value} {base : Heap}
theorem ok_law_numbers (T : TX P K mg) : OkC P w K mg base (He.fAd K ("_law_numbers", none)) ["_law_script"] 1 (spF K (He.ga K) 1 none DC.F_law_numbers) := fn_okD (kio := none) (body := DC.B_law_numbers) T.d_law_numbers sc_law_numbers bi_law_numbers fun cdv A outer s H E hr =>
  (dss_cons (ds_set (i := 1) sc_law_numbers.nd (by kernel_rfl) (.inl (by kernel_rfl)) (de_lst da_nil))
  (dss_cons (ds_for passes_cx rfl (di_rng1 gl_of T.m_range (de_min2 rfl gl_of T.m_min (de_len gl_of T.m_len PySem.boot_len (dp_de (de_var (pvl 0)))) de_int)) (dg_name (i := 2) sc_law_numbers.nd (by kernel_rfl) (.inl (by kernel_rfl)) (.inl rfl)) (dss_cons (ds_set (i := 3) sc_law_numbers.nd (by kernel_rfl) (.inl (by kernel_rfl)) (de_abs gl_of T.m_abs PyProof.Rows.boot_abs (dp_de (de_ix (de_var (pvl 0)) (de_var (pvl 2))))))
  (dss_one (ds_if (dt_cr cr_ge (de_var (pvl 3)) (de_pow de_int de_int)) (dss_one (ds_for passes_cx rfl (di_rng1 gl_of T.m_range de_int) (dg_name (i := 4) sc_law_numbers.nd (by kernel_rfl) (.inl (by kernel_rfl)) (.inl rfl)) (dss_one (ds_if (dt_cr cr_gt (de_var (pvl 3)) de_int) (dss_cons (ds_append (pvl 1) (de_mod (de_var (pvl 3)) de_int))
  (dss_one (ds_set (i := 3) sc_law_numbers.nd (by kernel_rfl) (.inl (by kernel_rfl)) (de_fdiv (de_var (pvl 3)) de_int)))) dss_nil)) (by decide))) (dss_one (ds_for passes_cx rfl (di_rng1 gl_of T.m_range de_int) (dg_name (i := 5) sc_law_numbers.nd (by kernel_rfl) (.inl (by kernel_rfl)) (.inl rfl)) (dss_cons (ds_set (i := 3) sc_law_numbers.nd (by kernel_rfl) (.inl (by kernel_rfl)) (de_mod (de_add (de_add (de_mul (de_var (pvl 3)) de_int) (de_mul de_int (de_add (de_var (pvl 5)) (de_var (pvl 2))))) de_int) de_int))
  (dss_cons (ds_set (i := 6) sc_law_numbers.nd (by kernel_rfl) (.inl (by kernel_rfl)) (de_mod (de_add (de_mul (de_var (pvl 3)) de_int) (de_fdiv (de_var (pvl 3)) de_int)) de_int))
  (dss_one (ds_append (pvl 1) (de_mod (de_var (pvl 6)) de_int))))) (by decide)))))) (by decide))
  (dss_one (ds_retMv (pvl 1)))))
theorem ok_law_next (T : TX P K mg) : OkC P w K mg base (He.fAd K ("_law_next", none)) ["_law_numbers_here", "_law_many"] 1 (spF K (He.ga K) 2 (some 0) DC.F_law_next) := fn_okD (kio := (some 0)) (body := DC.B_law_next) T.d_law_next sc_law_next bi_law_next fun cdv A outer s H E hr =>
  (dss_cons (ds_if (dt_cr (cr_eq hr.units) (de_len gl_of T.m_len PySem.boot_len (dp_peek (pvl 0))) de_int) (dss_one (ds_ret de_int)) dss_nil)
  (dss_one (ds_ret (de_mod (de_popAt (pvl 0) de_int) (de_var (pvl 1))))))
theorem ok_has (T : TX P K mg) : OkC P w K mg base (He.fAd K ("has", none)) ["bits", "x"] 1 (spF K (He.ga K) 2 none DC.F_has) := fn_okD (kio := none) (body := DC.B_has) T.d_has sc_has bi_has fun cdv A outer s H E hr =>
  (dss_one (ds_ret (de_cr (cr_eq hr.units) (de_and (de_shr (de_var (pvl 0)) (de_var (pvl 1))) de_int) de_int)))
theorem ok_u_closed (T : TX P K mg) : OkC P w K mg base (He.fAd K ("_closed", none)) ["n", "pairs"] 3 (spF K (He.ga K) 2 none DC.F_u_closed) := fn_okD (kio := none) (body := DC.B_u_closed) T.d_u_closed sc_u_closed bi_u_closed fun cdv A outer s H E hr =>
  (dss_cons (ds_set (i := 2) sc_u_closed.nd (by kernel_rfl) (.inl (by kernel_rfl)) (de_mul (de_lst (da_cons de_int da_nil)) (de_var (pvl 0))))
  (dss_cons (ds_for passes_cx rfl (di_of (de_var (pvl 1))) (dg_tup rfl (.cons (pg_name (i := 3) sc_u_closed.nd (by kernel_rfl) (.inl (by kernel_rfl)) (.inl rfl)) (.cons (pg_name (i := 4) sc_u_closed.nd (by kernel_rfl) (.inl (by kernel_rfl)) (.inl rfl)) .nil (by kernel_rfl)) (by kernel_rfl)) rfl) (dss_one (ds_sub (de_or (de_ixS (pvl 2) (de_var (pvl 3))) (de_shl de_int (de_var (pvl 4)))) (pvl 2) (de_var (pvl 3)))) (by decide))
  (dss_cons (ds_frzN 2 (ds_for passes_cx rfl (di_rng1 gl_of T.m_range (de_var (pvl 0))) (dg_name (i := 4) sc_u_closed.nd (by kernel_rfl) (.inl (by kernel_rfl)) (.inl rfl)) (dss_one (ds_for passes_cx rfl (di_rng1 gl_of T.m_range (de_var (pvl 0))) (dg_name (i := 3) sc_u_closed.nd (by kernel_rfl) (.inl (by kernel_rfl)) (.inl rfl)) (dss_one (ds_if (dt_val (de_callG (ok_has T) (hr.mono (by decide)) gl_of T.m_has takes_cx (da_cons (de_ixS (pvl 2) (de_var (pvl 3))) (da_cons (de_var (pvl 4)) da_nil)))) (dss_one (ds_sub (de_or (de_ixS (pvl 2) (de_var (pvl 3))) (de_ixS (pvl 2) (de_var (pvl 4)))) (pvl 2) (de_var (pvl 3)))) dss_nil)) (by decide))) (by decide)))
  (dss_cons (ds_for passes_cx rfl (di_rng1 gl_of T.m_range (de_var (pvl 0))) (dg_name (i := 3) sc_u_closed.nd (by kernel_rfl) (.inl (by kernel_rfl)) (.inl rfl)) (dss_one (ds_if (dt_val (de_callG (ok_has T) (hr.mono (by decide)) gl_of T.m_has takes_cx (da_cons (de_ix (de_var (pvl 2)) (de_var (pvl 3))) (da_cons (de_var (pvl 3)) da_nil)))) (dss_one (ds_raiseV rfl takes_cx (T.r_Refused _ _) (hr.mono (by decide)) gl_of T.m_Refused de_str)) dss_nil)) (by decide))
  (dss_one (ds_ret (de_tuple gl_of T.m_tuple PySem.Pv.boot_tuple (dp_de (de_var (pvl 2))))))))))
theorem ok_is_integer (T : TX P K mg) : OkC P w K mg base (He.fAd K ("is_integer", none)) ["value"] 1 (spF K (He.ga K) 1 none DC.F_is_integer) := fn_okD (kio := none) (body := DC.B_is_integer) T.d_is_integer sc_is_integer bi_is_integer fun cdv A outer s H E hr =>
  (dss_one (ds_ret (de_and2 (de_isi (T := "int") gl_of T.m_isinstance gl_of T.m_int PySem.Pv.boot_int (by decide) (dp_de (de_var (pvl 0)))) (de_one (de_notV (de_isi (T := "bool") gl_of T.m_isinstance gl_of T.m_bool PySem.Pv.boot_bool (by decide) (dp_de (de_var (pvl 0)))))))))
theorem ok_u_checked_pairs (T : TX P K mg) : OkC P w K mg base (He.fAd K ("_checked_pairs", none)) ["n", "pairs"] 2 (spF K (He.ga K) 2 none DC.F_u_checked_pairs) := fn_okD (kio := none) (body := DC.B_u_checked_pairs) T.d_u_checked_pairs sc_u_checked_pairs bi_u_checked_pairs fun cdv A outer s H E hr =>
  (dss_cons (ds_if (dt_not (dt_val (de_isi2 (T := "list") (U := "tuple") gl_of T.m_isinstance gl_of T.m_list PySem.Pv.boot_list (by decide) gl_of T.m_tuple PySem.Pv.boot_tuple (by decide) (dp_de (de_var (pvl 1)))))) (dss_one (ds_raise rfl takes_cx T.e_Malformed gl_of T.m_Malformed)) dss_nil)
  (dss_cons (ds_set (i := 2) sc_u_checked_pairs.nd (by kernel_rfl) (.inl (by kernel_rfl)) (de_lst da_nil))
  (dss_cons (ds_frzN 2 (ds_for passes_cx rfl (di_of (de_var (pvl 1))) (dg_name (i := 3) sc_u_checked_pairs.nd (by kernel_rfl) (.inl (by kernel_rfl)) (.inl rfl)) (dss_cons (ds_if (dt_w (dw_or (dt_not (dt_val (de_isi (T := "tuple") gl_of T.m_isinstance gl_of T.m_tuple PySem.Pv.boot_tuple (by decide) (dp_de (de_var (pvl 3)))))) (dw_or1 (dt_cr (cr_ne hr.units) (de_len gl_of T.m_len PySem.boot_len (dp_de (de_var (pvl 3)))) de_int)))) (dss_one (ds_raise rfl takes_cx T.e_Malformed gl_of T.m_Malformed)) dss_nil)
  (dss_cons (ds_for passes_cx rfl (di_of (de_var (pvl 3))) (dg_name (i := 4) sc_u_checked_pairs.nd (by kernel_rfl) (.inl (by kernel_rfl)) (.inl rfl)) (dss_one (ds_if (dt_w (dw_or (dt_not (dt_val (de_callG (ok_is_integer T) (hr.mono (by decide)) gl_of T.m_is_integer takes_cx (da_cons (de_var (pvl 4)) da_nil)))) (dw_or (dt_cr cr_lt (de_var (pvl 4)) de_int) (dw_or1 (dt_cr cr_ge (de_var (pvl 4)) (de_var (pvl 0))))))) (dss_one (ds_raise rfl takes_cx T.e_Malformed gl_of T.m_Malformed)) dss_nil)) (by decide))
  (dss_one (ds_append (pvl 2) (de_var (pvl 3)))))) (by decide)))
  (dss_one (ds_ret (de_var (pvl 2)))))))
theorem ok_OrderU_initU (T : TX P K mg) : OkC P w K mg base (He.fAd K ("Order", some "__init__")) ["self", "n", "pairs"] 4 (spF K (He.ga K) 3 (some 0) DC.F_OrderU_initU) := fn_okD (kio := (some 0)) (body := DC.B_OrderU_initU) T.d_OrderU_initU sc_OrderU_initU bi_OrderU_initU fun cdv A outer s H E hr =>
  (dss_cons (ds_if (dt_w (dw_or (dt_not (dt_val (de_callG (ok_is_integer T) (hr.mono (by decide)) gl_of T.m_is_integer takes_cx (da_cons (de_var (pvl 1)) da_nil)))) (dw_or1 (dt_cr cr_lt (de_var (pvl 1)) de_int)))) (dss_one (ds_raise rfl takes_cx T.e_Malformed gl_of T.m_Malformed)) dss_nil)
  (dss_cons (ds_if (dt_cr cr_gt (de_var (pvl 1)) (let ⟨t, e⟩ := T.m_MOST; de_glob (a := .int 10) gl_of e ⟨t, rfl⟩)) (dss_one (ds_raiseV rfl takes_cx (T.r_Refused _ _) (hr.mono (by decide)) gl_of T.m_Refused de_str)) dss_nil)
  (dss_cons (ds_fld T.c_Order T.n_Order_n (pvl 0) (de_var (pvl 1)))
  (dss_one (ds_fld T.c_Order T.n_Order_above (pvl 0) (de_callG (ok_u_closed T) (hr.mono (by decide)) gl_of T.m__closed takes_cx (da_cons (de_var (pvl 1)) (da_cons (de_callG (ok_u_checked_pairs T) (hr.mono (by decide)) gl_of T.m__checked_pairs takes_cx (da_cons (de_var (pvl 1)) (da_cons (de_var (pvl 2)) da_nil))) da_nil))))))))
theorem ok_law_order (T : TX P K mg) : OkC P w K mg base (He.fAd K ("_law_order", none)) ["_law_numbers_here", "_law_most"] 6 (spF K (He.ga K) 2 (some 0) DC.F_law_order) := fn_okD (kio := (some 0)) (body := DC.B_law_order) T.d_law_order sc_law_order bi_law_order fun cdv A outer s H E hr =>
  (dss_cons (ds_set (i := 2) sc_law_order.nd (by kernel_rfl) (.inl (by kernel_rfl)) (de_callLG (ok_law_next T) (hr.mono (by decide)) gl_of T.m__law_next takes_cx (da_lent (pvl 0) (da_cons (de_add (de_var (pvl 1)) de_int) da_nil))))
  (dss_cons (ds_set (i := 3) sc_law_order.nd (by kernel_rfl) (.inl (by kernel_rfl)) (de_lst da_nil))
  (dss_cons (ds_setLc (i := 4) (own := [("_law_k", 10)]) rfl sc_law_order.nd (by kernel_rfl) (by kernel_rfl) (sw_true (by kernel_rfl) (by kernel_rfl) (by kernel_rfl) (by kernel_rfl)) (di_rng1 gl_of T.m_range (de_var (pvl 2))) (blkOk_by (by kernel_rfl)) (by decide) (fun _ _ _ _ _ => (dg_name (i := 10) sc_law_order.nd (by kernel_rfl) (.inl (by kernel_rfl)) (.inr (by kernel_rfl)))) (fun _ _ _ _ _ => dts_nil) (fun _ _ _ _ _ => (de_var (pvl 10))))
  (dss_cons (ds_frzN 4 (ds_frzN 3 (ds_for passes_cx rfl (di_rng1 gl_of T.m_range (de_var (pvl 2))) (dg_name (i := 5) sc_law_order.nd (by kernel_rfl) (.inl (by kernel_rfl)) (.inl rfl)) (dss_one (ds_append (pvl 3) (de_popAt (pvl 4) (de_callLG (ok_law_next T) (hr.mono (by decide)) gl_of T.m__law_next takes_cx (da_lent (pvl 0) (da_cons (de_len gl_of T.m_len PySem.boot_len (dp_peek (pvl 4))) da_nil)))))) (by decide))))
  (dss_cons (ds_set (i := 6) sc_law_order.nd (by kernel_rfl) (.inl (by kernel_rfl)) (de_add de_int (de_callLG (ok_law_next T) (hr.mono (by decide)) gl_of T.m__law_next takes_cx (da_lent (pvl 0) (da_cons de_int da_nil)))))
  (dss_cons (ds_set (i := 7) sc_law_order.nd (by kernel_rfl) (.inl (by kernel_rfl)) (de_lst da_nil))
  (dss_cons (ds_frzN 7 (ds_for passes_cx rfl (di_rng1 gl_of T.m_range (de_var (pvl 2))) (dg_name (i := 8) sc_law_order.nd (by kernel_rfl) (.inl (by kernel_rfl)) (.inl rfl)) (dss_one (ds_for passes_cx rfl (di_rng1 gl_of T.m_range (de_var (pvl 8))) (dg_name (i := 9) sc_law_order.nd (by kernel_rfl) (.inl (by kernel_rfl)) (.inl rfl)) (dss_one (ds_if (dt_cr (cr_eq hr.units) (de_callLG (ok_law_next T) (hr.mono (by decide)) gl_of T.m__law_next takes_cx (da_lent (pvl 0) (da_cons (de_var (pvl 6)) da_nil))) de_int) (dss_one (ds_append (pvl 7) (de_tup (da_cons (de_ix (de_var (pvl 3)) (de_var (pvl 9))) (da_cons (de_ix (de_var (pvl 3)) (de_var (pvl 8))) da_nil))))) dss_nil)) (by decide))) (by decide)))
  (dss_one (ds_ret (de_makeG T.c_Order T.k_Order (ok_OrderU_initU T) (hr.mono (by decide)) gl_of T.m_Order takes_cx (da_cons (de_var (pvl 2)) (da_cons (de_var (pvl 7)) da_nil))))))))))))
theorem ok_Order_size (T : TX P K mg) : OkC P w K mg base (He.fAd K ("Order", some "size")) ["self"] 1 (spF K (He.ga K) 1 none DC.F_Order_size) := fn_okD (kio := none) (body := DC.B_Order_size) T.d_Order_size sc_Order_size bi_Order_size fun cdv A outer s H E hr =>
  (dss_one (ds_ret (de_fld (dp_de (de_var (pvl 0))))))
theorem ok_members (T : TX P K mg) : OkC P w K mg base (He.fAd K ("members", none)) ["bits"] 1 (spF K (He.ga K) 1 none DC.F_members) := fn_okD (kio := none) (body := DC.B_members) T.d_members sc_members bi_members fun cdv A outer s H E hr =>
  (dss_one (ds_ret (de_tuple gl_of T.m_tuple PySem.Pv.boot_tuple (dp_de (de_lc (own := [("x", 1)]) rfl sc_members.nd (di_rng1 gl_of T.m_range (de_bits (de_var (pvc 0)))) (blkOk_by (by kernel_rfl)) (by decide) (fun _ _ _ _ _ => (dg_name (i := 1) sc_members.nd (by kernel_rfl) (.inl (by kernel_rfl)) (.inr (by kernel_rfl)))) (fun _ _ _ _ _ => (dts_one (dt_cr (cr_eq hr.units) (de_and (de_shr (de_var (pvc 0)) (de_var (pvl 1))) de_int) de_int))) (fun _ _ _ _ _ => (de_var (pvl 1))))))))
theorem ok_Order_pairs (T : TX P K mg) : OkC P w K mg base (He.fAd K ("Order", some "pairs")) ["self"] 2 (spF K (He.ga K) 1 none DC.F_Order_pairs) := fn_okD (kio := none) (body := DC.B_Order_pairs) T.d_Order_pairs sc_Order_pairs bi_Order_pairs fun cdv A outer s H E hr =>
  (dss_cons (ds_set (i := 1) sc_Order_pairs.nd (by kernel_rfl) (.inl (by kernel_rfl)) (de_lst da_nil))
  (dss_cons (ds_frzN 1 (ds_for passes_cx rfl (di_rng1 gl_of T.m_range (de_fld (dp_de (de_var (pvl 0))))) (dg_name (i := 2) sc_Order_pairs.nd (by kernel_rfl) (.inl (by kernel_rfl)) (.inl rfl)) (dss_one (ds_for passes_cx rfl (di_of (de_callG (ok_members T) (hr.mono (by decide)) gl_of T.m_members takes_cx (da_cons (de_ix (de_fld (dp_de (de_var (pvl 0)))) (de_var (pvl 2))) da_nil))) (dg_name (i := 3) sc_Order_pairs.nd (by kernel_rfl) (.inl (by kernel_rfl)) (.inl rfl)) (dss_one (ds_append (pvl 1) (de_tup (da_cons (de_var (pvl 2)) (da_cons (de_var (pvl 3)) da_nil))))) (by decide))) (by decide)))
  (dss_one (ds_ret (de_tuple gl_of T.m_tuple PySem.Pv.boot_tuple (dp_de (de_var (pvl 1))))))))
theorem ok_law_table (T : TX P K mg) : OkC P w K mg base (He.fAd K ("_law_table", none)) ["_law_order_here"] 3 (spF K (He.ga K) 1 none DC.F_law_table) := fn_okD (kio := none) (body := DC.B_law_table) T.d_law_table sc_law_table bi_law_table fun cdv A outer s H E hr =>
  (dss_cons (ds_set (i := 1) sc_law_table.nd (by kernel_rfl) (.inr (by kernel_rfl)) (de_meth0G (de_var (pvl 0)) T.c_Order T.q_Order_size (ok_Order_size T) (hr.mono (by decide)) takes_cx))
  (dss_cons (ds_setLc (i := 2) (own := [("_law_x", 3)]) rfl sc_law_table.nd (by kernel_rfl) (by kernel_rfl) (sw_true (by kernel_rfl) (by kernel_rfl) (by kernel_rfl) (by kernel_rfl)) (di_rng1 gl_of T.m_range (de_var (pvc 1))) (blkOk_by (by kernel_rfl)) (by decide) (fun _ _ _ _ _ => (dg_name (i := 3) sc_law_table.nd (by kernel_rfl) (.inl (by kernel_rfl)) (.inr (by kernel_rfl)))) (fun _ _ _ _ _ => dts_nil) (fun _ _ _ _ _ => (de_lc (own := [("_law_y", 4)]) rfl sc_law_table.nd (di_rng1 gl_of T.m_range (de_var (pvc 1))) (blkOk_by (by kernel_rfl)) (by decide) (fun _ _ _ _ _ => (dg_name (i := 4) sc_law_table.nd (by kernel_rfl) (.inl (by kernel_rfl)) (.inr (by kernel_rfl)))) (fun _ _ _ _ _ => dts_nil) (fun _ _ _ _ _ => de_bl))))
  (dss_cons (ds_frzN 2 (ds_for passes_cx rfl (di_of (de_meth0G (de_var (pvl 0)) T.c_Order T.q_Order_pairs (ok_Order_pairs T) (hr.mono (by decide)) takes_cx)) (dg_tup rfl (.cons (pg_name (i := 3) sc_law_table.nd (by kernel_rfl) (.inl (by kernel_rfl)) (.inl rfl)) (.cons (pg_name (i := 4) sc_law_table.nd (by kernel_rfl) (.inl (by kernel_rfl)) (.inl rfl)) .nil (by kernel_rfl)) (by kernel_rfl)) rfl) (dss_one (ds_sub2 de_bl (pvl 2) (dq_var (pvl 3)) (dq_var (pvl 4)))) (by decide)))
  (dss_one (ds_ret (de_var (pvl 2)))))))
theorem ok_Order_at_most (T : TX P K mg) : OkC P w K mg base (He.fAd K ("Order", some "at_most")) ["self", "x", "y"] 2 (spF K (He.ga K) 3 none DC.F_Order_at_most) := fn_okD (kio := none) (body := DC.B_Order_at_most) T.d_Order_at_most sc_Order_at_most bi_Order_at_most fun cdv A outer s H E hr =>
  (dss_one (ds_ret (de_or2 (de_cr (cr_eq hr.units) (de_var (pvl 1)) (de_var (pvl 2))) (de_one (de_callG (ok_has T) (hr.mono (by decide)) gl_of T.m_has takes_cx (da_cons (de_ix (de_fld (dp_de (de_var (pvl 0)))) (de_var (pvl 1))) (da_cons (de_var (pvl 2)) da_nil)))))))
theorem ok_law_function (T : TX P K mg) : OkC P w K mg base (He.fAd K ("_law_function", none)) ["_law_order_here", "_law_numbers_here"] 3 (spF K (He.ga K) 2 (some 1) DC.F_law_function) := fn_okD (kio := (some 1)) (body := DC.B_law_function) T.d_law_function sc_law_function bi_law_function fun cdv A outer s H E hr =>
  (dss_cons (ds_set (i := 2) sc_law_function.nd (by kernel_rfl) (.inl (by kernel_rfl)) (de_meth0G (de_var (pvl 0)) T.c_Order T.q_Order_size (ok_Order_size T) (hr.mono (by decide)) takes_cx))
  (dss_cons (ds_set (i := 3) sc_law_function.nd (by kernel_rfl) (.inl (by kernel_rfl)) (de_lst da_nil))
  (dss_cons (ds_frzN 3 (ds_for passes_cx rfl (di_rng1 gl_of T.m_range (de_var (pvl 2))) (dg_name (i := 4) sc_law_function.nd (by kernel_rfl) (.inl (by kernel_rfl)) (.inl rfl)) (dss_cons (ds_set (i := 5) sc_law_function.nd (by kernel_rfl) (.inl (by kernel_rfl)) (de_lst da_nil))
  (dss_cons (ds_frzN 5 (ds_for passes_cx rfl (di_rng1 gl_of T.m_range (de_var (pvl 2))) (dg_name (i := 6) sc_law_function.nd (by kernel_rfl) (.inl (by kernel_rfl)) (.inl rfl)) (dss_cons (ds_set (i := 7) sc_law_function.nd (by kernel_rfl) (.inl (by kernel_rfl)) (de_sub (de_callLG (ok_law_next T) (hr.mono (by decide)) gl_of T.m__law_next takes_cx (da_lent (pvl 1) (da_cons de_int da_nil))) de_int))
  (dss_cons (ds_if (dt_cr (cr_eq hr.units) (de_var (pvl 4)) (de_var (pvl 6))) (dss_one (ds_set (i := 7) sc_law_function.nd (by kernel_rfl) (.inl (by kernel_rfl)) (de_sub de_int (de_mul de_int (de_mod (de_var (pvl 7)) de_int))))) dss_nil)
  (dss_cons (ds_if (dt_not (dt_val (de_methG (de_var (pvl 0)) T.c_Order T.q_Order_at_most (ok_Order_at_most T) (hr.mono (by decide)) takes_cx (da_cons (de_var (pvl 4)) (da_cons (de_var (pvl 6)) da_nil))))) (dss_one (ds_set (i := 7) sc_law_function.nd (by kernel_rfl) (.inl (by kernel_rfl)) de_int)) dss_nil)
  (dss_one (ds_append (pvl 5) (de_var (pvl 7))))))) (by decide)))
  (dss_one (ds_append (pvl 3) (de_var (pvl 5)))))) (by decide)))
  (dss_one (ds_ret (de_var (pvl 3)))))))
theorem ok_is_table (T : TX P K mg) : OkC P w K mg base (He.fAd K ("is_table", none)) ["order", "rows"] 3 (spF K (He.ga K) 2 none DC.F_is_table) := fn_okD (kio := none) (body := DC.B_is_table) T.d_is_table sc_is_table bi_is_table fun cdv A outer s H E hr =>
  (dss_cons (ds_set (i := 2) sc_is_table.nd (by kernel_rfl) (.inl (by kernel_rfl)) (de_meth0G (de_var (pvl 0)) T.c_Order T.q_Order_size (ok_Order_size T) (hr.mono (by decide)) takes_cx))
  (dss_cons (ds_if (dt_w (dw_or (dt_not (dt_val (de_isi2 (T := "tuple") (U := "list") gl_of T.m_isinstance gl_of T.m_tuple PySem.Pv.boot_tuple (by decide) gl_of T.m_list PySem.Pv.boot_list (by decide) (dp_de (de_var (pvl 1)))))) (dw_or1 (dt_cr (cr_ne hr.units) (de_len gl_of T.m_len PySem.boot_len (dp_de (de_var (pvl 1)))) (de_var (pvl 2)))))) (dss_one (ds_ret de_bl)) dss_nil)
  (dss_cons (ds_for passes_cx rfl (di_rng1 gl_of T.m_range (de_var (pvl 2))) (dg_name (i := 3) sc_is_table.nd (by kernel_rfl) (.inl (by kernel_rfl)) (.inl rfl)) (dss_cons (ds_if (dt_w (dw_or (dt_not (dt_val (de_isi2 (T := "tuple") (U := "list") gl_of T.m_isinstance gl_of T.m_tuple PySem.Pv.boot_tuple (by decide) gl_of T.m_list PySem.Pv.boot_list (by decide) (dp_de (de_ix (de_var (pvl 1)) (de_var (pvl 3))))))) (dw_or1 (dt_cr (cr_ne hr.units) (de_len gl_of T.m_len PySem.boot_len (dp_de (de_ix (de_var (pvl 1)) (de_var (pvl 3))))) (de_var (pvl 2)))))) (dss_one (ds_ret de_bl)) dss_nil)
  (dss_one (ds_for passes_cx rfl (di_rng1 gl_of T.m_range (de_var (pvl 2))) (dg_name (i := 4) sc_is_table.nd (by kernel_rfl) (.inl (by kernel_rfl)) (.inl rfl)) (dss_cons (ds_if (dt_not (dt_val (de_callG (ok_is_integer T) (hr.mono (by decide)) gl_of T.m_is_integer takes_cx (da_cons (de_ix (de_ix (de_var (pvl 1)) (de_var (pvl 3))) (de_var (pvl 4))) da_nil)))) (dss_one (ds_ret de_bl)) dss_nil)
  (dss_one (ds_if (dt_w (dw_and (dt_cr (cr_ne hr.units) (de_ix (de_ix (de_var (pvl 1)) (de_var (pvl 3))) (de_var (pvl 4))) de_int) (dw_and1 (dt_not (dt_val (de_methG (de_var (pvl 0)) T.c_Order T.q_Order_at_most (ok_Order_at_most T) (hr.mono (by decide)) takes_cx (da_cons (de_var (pvl 3)) (da_cons (de_var (pvl 4)) da_nil)))))))) (dss_one (ds_ret de_bl)) dss_nil))) (by decide)))) (by decide))
  (dss_one (ds_ret de_bl)))))
theorem ok_IncidenceU_initU (T : TX P K mg) : OkC P w K mg base (He.fAd K ("Incidence", some "__init__")) ["self", "order", "rows"] 4 (spF K (He.ga K) 3 (some 0) DC.F_IncidenceU_initU) := fn_okD (kio := (some 0)) (body := DC.B_IncidenceU_initU) T.d_IncidenceU_initU sc_IncidenceU_initU bi_IncidenceU_initU fun cdv A outer s H E hr =>
  (dss_cons (ds_if (dt_not (dt_val (de_callG (ok_is_table T) (hr.mono (by decide)) gl_of T.m_is_table takes_cx (da_cons (de_var (pvl 1)) (da_cons (de_var (pvl 2)) da_nil))))) (dss_one (ds_raise rfl takes_cx T.e_Malformed gl_of T.m_Malformed)) dss_nil)
  (dss_cons (ds_fld T.c_Incidence T.n_Incidence_order (pvl 0) (de_var (pvl 1)))
  (dss_one (ds_fld T.c_Incidence T.n_Incidence_rows (pvl 0) (de_tuple gl_of T.m_tuple PySem.Pv.boot_tuple (dp_de (de_lc (own := [("row", 3)]) rfl sc_IncidenceU_initU.nd (di_of (de_var (pvl 2))) (blkOk_by (by kernel_rfl)) (by decide) (fun _ _ _ _ _ => (dg_name (i := 3) sc_IncidenceU_initU.nd (by kernel_rfl) (.inl (by kernel_rfl)) (.inr (by kernel_rfl)))) (fun _ _ _ _ _ => dts_nil) (fun _ _ _ _ _ => (de_tuple gl_of T.m_tuple PySem.Pv.boot_tuple (dp_de (de_var (pvl 3))))))))))))
theorem ok_OrderU_eqU (T : TX P K mg) : OkC P w K mg base (He.fAd K ("Order", some "__eq__")) ["self", "other"] 1 (spF K (He.ga K) 2 none DC.F_OrderU_eqU) := fn_okD (kio := none) (body := DC.B_OrderU_eqU) T.d_OrderU_eqU sc_OrderU_eqU bi_OrderU_eqU fun cdv A outer s H E hr =>
  (dss_one (ds_ret (de_and2 (de_isiA (C := "Order") T.x_Order T.kn_Order gl_of T.m_isinstance gl_of T.m_Order (dp_de (de_var (pvl 1)))) (de_and2 (de_cr (cr_eq hr.units) (de_fld (dp_de (de_var (pvl 0)))) (de_fld (dp_de (de_var (pvl 1))))) (de_one (de_cr (cr_eq hr.units) (de_fld (dp_de (de_var (pvl 0)))) (de_fld (dp_de (de_var (pvl 1))))))))))
theorem ok_IncidenceU_eqU (T : TX P K mg) : OkC P w K mg base (He.fAd K ("Incidence", some "__eq__")) ["self", "other"] 3 (spF K (He.ga K) 2 none DC.F_IncidenceU_eqU) := fn_okD (kio := none) (body := DC.B_IncidenceU_eqU) T.d_IncidenceU_eqU sc_IncidenceU_eqU bi_IncidenceU_eqU fun cdv A outer s H E hr =>
  (dss_one (ds_ret (de_and2 (de_isiA (C := "Incidence") T.x_Incidence T.kn_Incidence gl_of T.m_isinstance gl_of T.m_Incidence (dp_de (de_var (pvl 1)))) (de_and2 (de_cr (cr_ownA hr.units (C := "Order") (ok_OrderU_eqU T) (hr.mono (by decide)) T.q_OrderU_eqU T.kn_Order) (de_fld (dp_de (de_var (pvl 0)))) (de_fld (dp_de (de_var (pvl 1))))) (de_one (de_cr (cr_eq hr.units) (de_fld (dp_de (de_var (pvl 0)))) (de_fld (dp_de (de_var (pvl 1))))))))))
theorem ok_check_same (T : TX P K mg) : OkC P w K mg base (He.fAd K ("check_same", none)) ["one", "two"] 3 (spF K (He.ga K) 2 none DC.F_check_same) := fn_okD (kio := none) (body := DC.B_check_same) T.d_check_same sc_check_same bi_check_same fun cdv A outer s H E hr =>
  (dss_one (ds_if (dt_cr (cr_ownNe (C := "Order") (ok_OrderU_eqU T) (hr.mono (by decide)) T.q_OrderU_eqU T.x_Order.noNe) (de_fld (dp_de (de_var (pvl 0)))) (de_fld (dp_de (de_var (pvl 1))))) (dss_one (ds_raise rfl takes_cx T.e_Malformed gl_of T.m_Malformed)) dss_nil))
theorem ok_IncidenceU_mulU (T : TX P K mg) : OkC P w K mg base (He.fAd K ("Incidence", some "__mul__")) ["self", "other"] 6 (spF K (He.ga K) 2 none DC.F_IncidenceU_mulU) := fn_okD (kio := none) (body := DC.B_IncidenceU_mulU) T.d_IncidenceU_mulU sc_IncidenceU_mulU bi_IncidenceU_mulU fun cdv A outer s H E hr =>
  (dss_cons (ds_expr (de_callG (ok_check_same T) (hr.mono (by decide)) gl_of T.m_check_same takes_cx (da_cons (de_var (pvc 0)) (da_cons (de_var (pvc 1)) da_nil))))
  (dss_cons (ds_set (i := 2) sc_IncidenceU_mulU.nd (by kernel_rfl) (.inl (by kernel_rfl)) (de_len gl_of T.m_len PySem.boot_len (dp_de (de_fld (dp_de (de_var (pvc 0)))))))
  (dss_cons (ds_set (i := 3) sc_IncidenceU_mulU.nd (by kernel_rfl) (.inl (by kernel_rfl)) (de_lst da_nil))
  (dss_cons (ds_frzN 3 (ds_for passes_cx rfl (di_rng1 gl_of T.m_range (de_var (pvl 2))) (dg_name (i := 4) sc_IncidenceU_mulU.nd (by kernel_rfl) (.inr (by kernel_rfl)) (.inl rfl)) (dss_cons (ds_set (i := 5) sc_IncidenceU_mulU.nd (by kernel_rfl) (.inl (by kernel_rfl)) (de_lst da_nil))
  (dss_cons (ds_frzN 5 (ds_for passes_cx rfl (di_rng1 gl_of T.m_range (de_var (pvl 2))) (dg_name (i := 6) sc_IncidenceU_mulU.nd (by kernel_rfl) (.inr (by kernel_rfl)) (.inl rfl)) (dss_one (ds_append (pvl 5) (de_sum rfl gl_of T.m_sum (dp_de (de_lc (own := [("z", 7)]) rfl sc_IncidenceU_mulU.nd (di_rng1 gl_of T.m_range (de_var (pvl 2))) (blkOk_by (by kernel_rfl)) (by decide) (fun _ _ _ _ _ => (dg_name (i := 7) sc_IncidenceU_mulU.nd (by kernel_rfl) (.inl (by kernel_rfl)) (.inr (by kernel_rfl)))) (fun _ _ _ _ _ => dts_nil) (fun _ _ _ _ _ => (de_mul (de_ix (de_ix (de_fld (dp_de (de_var (pvc 0)))) (de_var (pvc 4))) (de_var (pvl 7))) (de_ix (de_ix (de_fld (dp_de (de_var (pvc 1)))) (de_var (pvl 7))) (de_var (pvc 6)))))))))) (by decide)))
  (dss_one (ds_append (pvl 3) (de_var (pvl 5)))))) (by decide)))
  (dss_one (ds_ret (de_makeG T.c_Incidence T.k_Incidence (ok_IncidenceU_initU T) (hr.mono (by decide)) gl_of T.m_Incidence takes_cx (da_cons (de_fld (dp_de (de_var (pvc 0)))) (da_cons (de_var (pvl 3)) da_nil)))))))))
theorem ok_IncidenceU_addU (T : TX P K mg) : OkC P w K mg base (He.fAd K ("Incidence", some "__add__")) ["self", "other"] 6 (spF K (He.ga K) 2 none DC.F_IncidenceU_addU) := fn_okD (kio := none) (body := DC.B_IncidenceU_addU) T.d_IncidenceU_addU sc_IncidenceU_addU bi_IncidenceU_addU fun cdv A outer s H E hr =>
  (dss_cons (ds_expr (de_callG (ok_check_same T) (hr.mono (by decide)) gl_of T.m_check_same takes_cx (da_cons (de_var (pvc 0)) (da_cons (de_var (pvc 1)) da_nil))))
  (dss_cons (ds_set (i := 2) sc_IncidenceU_addU.nd (by kernel_rfl) (.inr (by kernel_rfl)) (de_len gl_of T.m_len PySem.boot_len (dp_de (de_fld (dp_de (de_var (pvc 0)))))))
  (dss_one (ds_ret (de_makeG T.c_Incidence T.k_Incidence (ok_IncidenceU_initU T) (hr.mono (by decide)) gl_of T.m_Incidence takes_cx (da_cons (de_fld (dp_de (de_var (pvc 0)))) (da_cons (de_lc (own := [("x", 3)]) rfl sc_IncidenceU_addU.nd (di_rng1 gl_of T.m_range (de_var (pvc 2))) (blkOk_by (by kernel_rfl)) (by decide) (fun _ _ _ _ _ => (dg_name (i := 3) sc_IncidenceU_addU.nd (by kernel_rfl) (.inr (by kernel_rfl)) (.inl (by kernel_rfl)))) (fun _ _ _ _ _ => dts_nil) (fun _ _ _ _ _ => (de_lc (own := [("y", 4)]) rfl sc_IncidenceU_addU.nd (di_rng1 gl_of T.m_range (de_var (pvc 2))) (blkOk_by (by kernel_rfl)) (by decide) (fun _ _ _ _ _ => (dg_name (i := 4) sc_IncidenceU_addU.nd (by kernel_rfl) (.inl (by kernel_rfl)) (.inr (by kernel_rfl)))) (fun _ _ _ _ _ => dts_nil) (fun _ _ _ _ _ => (de_add (de_ix (de_ix (de_fld (dp_de (de_var (pvc 0)))) (de_var (pvc 3))) (de_var (pvl 4))) (de_ix (de_ix (de_fld (dp_de (de_var (pvc 1)))) (de_var (pvc 3))) (de_var (pvl 4)))))))) da_nil)))))))
theorem ok_IncidenceU_negU (T : TX P K mg) : OkC P w K mg base (He.fAd K ("Incidence", some "__neg__")) ["self"] 6 (spF K (He.ga K) 1 none DC.F_IncidenceU_negU) := fn_okD (kio := none) (body := DC.B_IncidenceU_negU) T.d_IncidenceU_negU sc_IncidenceU_negU bi_IncidenceU_negU fun cdv A outer s H E hr =>
  (dss_one (ds_ret (de_makeG T.c_Incidence T.k_Incidence (ok_IncidenceU_initU T) (hr.mono (by decide)) gl_of T.m_Incidence takes_cx (da_cons (de_fld (dp_de (de_var (pvl 0)))) (da_cons (de_lc (own := [("row", 1)]) rfl sc_IncidenceU_negU.nd (di_of (de_fld (dp_de (de_var (pvl 0))))) (blkOk_by (by kernel_rfl)) (by decide) (fun _ _ _ _ _ => (dg_name (i := 1) sc_IncidenceU_negU.nd (by kernel_rfl) (.inl (by kernel_rfl)) (.inr (by kernel_rfl)))) (fun _ _ _ _ _ => dts_nil) (fun _ _ _ _ _ => (de_lc (own := [("value", 2)]) rfl sc_IncidenceU_negU.nd (di_of (de_var (pvl 1))) (blkOk_by (by kernel_rfl)) (by decide) (fun _ _ _ _ _ => (dg_name (i := 2) sc_IncidenceU_negU.nd (by kernel_rfl) (.inl (by kernel_rfl)) (.inr (by kernel_rfl)))) (fun _ _ _ _ _ => dts_nil) (fun _ _ _ _ _ => (de_neg (de_var (pvl 2))))))) da_nil)))))
theorem ok_IncidenceU_subU (T : TX P K mg) : OkC P w K mg base (He.fAd K ("Incidence", some "__sub__")) ["self", "other"] 7 (spF K (He.ga K) 2 none DC.F_IncidenceU_subU) := fn_okD (kio := none) (body := DC.B_IncidenceU_subU) T.d_IncidenceU_subU sc_IncidenceU_subU bi_IncidenceU_subU fun cdv A outer s H E hr =>
  (dss_one (ds_ret (de_binOG (C := "Incidence") (de_var (pvl 0)) (de_fz (de_negOG (C := "Incidence") (de_var (pvl 1)) T.q_IncidenceU_negU (ok_IncidenceU_negU T) (hr.mono (by decide)) takes_cx)) T.sf_Incidence T.q_IncidenceU_addU (ok_IncidenceU_addU T) (hr.mono (by decide)) takes_cx)))
theorem ok_law_unlike (T : TX P K mg) : OkC P w K mg base (He.fAd K ("_law_unlike", none)) ["_law_f", "_law_g"] 8 (spF K (He.ga K) 2 none DC.F_law_unlike) := fn_okD (kio := none) (body := DC.B_law_unlike) T.d_law_unlike sc_law_unlike bi_law_unlike fun cdv A outer s H E hr =>
  (dss_cons (ds_set (i := 2) sc_law_unlike.nd (by kernel_rfl) (.inl (by kernel_rfl)) de_int)
  (dss_cons (ds_try rfl rfl sc_law_unlike.nd takes_cx (fun _ pn xe tk pa => (dss_one (ds_expr (de_binOG (C := "Incidence") (de_var (pvl 0)) (de_var (pvl 1)) T.sf_Incidence T.q_IncidenceU_mulU (ok_IncidenceU_mulU T) (hr.mono (by decide)) tk)))) (.cons ⟨gl_of, by kernel_rfl, .inl T.m_Malformed⟩ (matches_cons T.xm_Malformed_Malformed (matches_cons T.xm_Refused_Malformed matches_nil)) (fun a oe cls d pn hz hf => (dss_one (ds_set (i := 2) sc_law_unlike.nd (by kernel_rfl) (.inl (by kernel_rfl)) (de_add (de_var (pvl 2)) de_int)))) .nil))
  (dss_cons (ds_try rfl rfl sc_law_unlike.nd takes_cx (fun _ pn xe tk pa => (dss_one (ds_expr (de_binOG (C := "Incidence") (de_var (pvl 0)) (de_var (pvl 1)) T.sf_Incidence T.q_IncidenceU_addU (ok_IncidenceU_addU T) (hr.mono (by decide)) tk)))) (.cons ⟨gl_of, by kernel_rfl, .inl T.m_Malformed⟩ (matches_cons T.xm_Malformed_Malformed (matches_cons T.xm_Refused_Malformed matches_nil)) (fun a oe cls d pn hz hf => (dss_one (ds_set (i := 2) sc_law_unlike.nd (by kernel_rfl) (.inl (by kernel_rfl)) (de_add (de_var (pvl 2)) de_int)))) .nil))
  (dss_cons (ds_try rfl rfl sc_law_unlike.nd takes_cx (fun _ pn xe tk pa => (dss_one (ds_expr (de_binOG (C := "Incidence") (de_var (pvl 0)) (de_var (pvl 1)) T.sf_Incidence T.q_IncidenceU_subU (ok_IncidenceU_subU T) (hr.mono (by decide)) tk)))) (.cons ⟨gl_of, by kernel_rfl, .inl T.m_Malformed⟩ (matches_cons T.xm_Malformed_Malformed (matches_cons T.xm_Refused_Malformed matches_nil)) (fun a oe cls d pn hz hf => (dss_one (ds_set (i := 2) sc_law_unlike.nd (by kernel_rfl) (.inl (by kernel_rfl)) (de_add (de_var (pvl 2)) de_int)))) .nil))
  (dss_one (ds_ret (de_cr (cr_eq hr.units) (de_var (pvl 2)) de_int)))))))
theorem ok_law_refuses (T : TX P K mg) : OkC P w K mg base (He.fAd K ("_law_refuses", none)) ["_law_order_here", "_law_rows"] 6 (spF K (He.ga K) 2 none DC.F_law_refuses) := fn_okD (kio := none) (body := DC.B_law_refuses) T.d_law_refuses sc_law_refuses bi_law_refuses fun cdv A outer s H E hr =>
  (dss_one (ds_try rfl rfl sc_law_refuses.nd takes_cx (fun _ pn xe tk pa => (dss_cons (ds_expr (de_makeG T.c_Incidence T.k_Incidence (ok_IncidenceU_initU T) (hr.mono (by decide)) gl_of T.m_Incidence tk (da_cons (de_var (pvl 0)) (da_cons (de_var (pvl 1)) da_nil))))
  (dss_one (ds_ret de_bl)))) (.cons ⟨gl_of, by kernel_rfl, .inl T.m_Malformed⟩ (matches_cons T.xm_Malformed_Malformed (matches_cons T.xm_Refused_Malformed matches_nil)) (fun a oe cls d pn hz hf => (dss_one (ds_ret de_bl))) .nil)))
theorem ok_law_times (T : TX P K mg) : OkC P w K mg base (He.fAd K ("_law_times", none)) ["_law_table_here", "_law_f", "_law_g"] 1 (spF K (He.ga K) 3 none DC.F_law_times) := fn_okD (kio := none) (body := DC.B_law_times) T.d_law_times sc_law_times bi_law_times fun cdv A outer s H E hr =>
  (dss_cons (ds_set (i := 3) sc_law_times.nd (by kernel_rfl) (.inl (by kernel_rfl)) (de_len gl_of T.m_len PySem.boot_len (dp_de (de_var (pvl 1)))))
  (dss_cons (ds_set (i := 4) sc_law_times.nd (by kernel_rfl) (.inl (by kernel_rfl)) (de_lst da_nil))
  (dss_cons (ds_frzN 4 (ds_for passes_cx rfl (di_rng1 gl_of T.m_range (de_var (pvl 3))) (dg_name (i := 5) sc_law_times.nd (by kernel_rfl) (.inl (by kernel_rfl)) (.inl rfl)) (dss_cons (ds_set (i := 6) sc_law_times.nd (by kernel_rfl) (.inl (by kernel_rfl)) (de_lst da_nil))
  (dss_cons (ds_frzN 6 (ds_for passes_cx rfl (di_rng1 gl_of T.m_range (de_var (pvl 3))) (dg_name (i := 7) sc_law_times.nd (by kernel_rfl) (.inl (by kernel_rfl)) (.inl rfl)) (dss_cons (ds_set (i := 8) sc_law_times.nd (by kernel_rfl) (.inl (by kernel_rfl)) de_int)
  (dss_cons (ds_for passes_cx rfl (di_rng1 gl_of T.m_range (de_var (pvl 3))) (dg_name (i := 9) sc_law_times.nd (by kernel_rfl) (.inl (by kernel_rfl)) (.inl rfl)) (dss_one (ds_if (dt_w (dw_and (dt_w (dw_or (dt_cr (cr_eq hr.units) (de_var (pvl 5)) (de_var (pvl 9))) (dw_or1 (dt_val (de_ix (de_ix (de_var (pvl 0)) (de_var (pvl 5))) (de_var (pvl 9))))))) (dw_and1 (dt_w (dw_or (dt_cr (cr_eq hr.units) (de_var (pvl 9)) (de_var (pvl 7))) (dw_or1 (dt_val (de_ix (de_ix (de_var (pvl 0)) (de_var (pvl 9))) (de_var (pvl 7)))))))))) (dss_one (ds_set (i := 8) sc_law_times.nd (by kernel_rfl) (.inl (by kernel_rfl)) (de_add (de_var (pvl 8)) (de_mul (de_ix (de_ix (de_var (pvl 1)) (de_var (pvl 5))) (de_var (pvl 9))) (de_ix (de_ix (de_var (pvl 2)) (de_var (pvl 9))) (de_var (pvl 7))))))) dss_nil)) (by decide))
  (dss_one (ds_append (pvl 6) (de_var (pvl 8)))))) (by decide)))
  (dss_one (ds_append (pvl 4) (de_tuple gl_of T.m_tuple PySem.Pv.boot_tuple (dp_de (de_var (pvl 6)))))))) (by decide)))
  (dss_one (ds_ret (de_tuple gl_of T.m_tuple PySem.Pv.boot_tuple (dp_de (de_var (pvl 4)))))))))
theorem ok_delta (T : TX P K mg) : OkC P w K mg base (He.fAd K ("delta", none)) ["order"] 6 (spF K (He.ga K) 1 none DC.F_delta) := fn_okD (kio := none) (body := DC.B_delta) T.d_delta sc_delta bi_delta fun cdv A outer s H E hr =>
  (dss_cons (ds_set (i := 1) sc_delta.nd (by kernel_rfl) (.inr (by kernel_rfl)) (de_meth0G (de_var (pvl 0)) T.c_Order T.q_Order_size (ok_Order_size T) (hr.mono (by decide)) takes_cx))
  (dss_one (ds_ret (de_makeG T.c_Incidence T.k_Incidence (ok_IncidenceU_initU T) (hr.mono (by decide)) gl_of T.m_Incidence takes_cx (da_cons (de_var (pvl 0)) (da_cons (de_lc (own := [("x", 2)]) rfl sc_delta.nd (di_rng1 gl_of T.m_range (de_var (pvc 1))) (blkOk_by (by kernel_rfl)) (by decide) (fun _ _ _ _ _ => (dg_name (i := 2) sc_delta.nd (by kernel_rfl) (.inr (by kernel_rfl)) (.inl (by kernel_rfl)))) (fun _ _ _ _ _ => dts_nil) (fun _ _ _ _ _ => (de_lc (own := [("y", 3)]) rfl sc_delta.nd (di_rng1 gl_of T.m_range (de_var (pvc 1))) (blkOk_by (by kernel_rfl)) (by decide) (fun _ _ _ _ _ => (dg_name (i := 3) sc_delta.nd (by kernel_rfl) (.inl (by kernel_rfl)) (.inr (by kernel_rfl)))) (fun _ _ _ _ _ => dts_nil) (fun _ _ _ _ _ => (de_intc gl_of T.m_int PySem.Pv.boot_int (dp_de (de_cr (cr_eq hr.units) (de_var (pvc 2)) (de_var (pvl 3))))))))) da_nil))))))
theorem ok_Incidence_power (T : TX P K mg) : OkC P w K mg base (He.fAd K ("Incidence", some "power")) ["self", "k"] 7 (spF K (He.ga K) 2 none DC.F_Incidence_power) := fn_okD (kio := none) (body := DC.B_Incidence_power) T.d_Incidence_power sc_Incidence_power bi_Incidence_power fun cdv A outer s H E hr =>
  (dss_cons (ds_set (i := 2) sc_Incidence_power.nd (by kernel_rfl) (.inl (by kernel_rfl)) (de_fz (de_callG (ok_delta T) (hr.mono (by decide)) gl_of T.m_delta takes_cx (da_cons (de_fld (dp_de (de_var (pvl 0)))) da_nil))))
  (dss_cons (ds_for passes_cx rfl (di_rng1 gl_of T.m_range (de_var (pvl 1))) (dg_name (i := 3) sc_Incidence_power.nd (by kernel_rfl) (.inl (by kernel_rfl)) (.inl rfl)) (dss_one (ds_set (i := 2) sc_Incidence_power.nd (by kernel_rfl) (.inl (by kernel_rfl)) (de_fz (de_binOG (C := "Incidence") (de_var (pvl 2)) (de_var (pvl 0)) T.sf_Incidence T.q_IncidenceU_mulU (ok_IncidenceU_mulU T) (hr.mono (by decide)) takes_cx)))) (by decide))
  (dss_one (ds_ret (de_var (pvl 2))))))
theorem ok_Incidence_value (T : TX P K mg) : OkC P w K mg base (He.fAd K ("Incidence", some "value")) ["self", "x", "y"] 1 (spF K (He.ga K) 3 none DC.F_Incidence_value) := fn_okD (kio := none) (body := DC.B_Incidence_value) T.d_Incidence_value sc_Incidence_value bi_Incidence_value fun cdv A outer s H E hr =>
  (dss_one (ds_ret (de_ix (de_ix (de_fld (dp_de (de_var (pvl 0)))) (de_var (pvl 1))) (de_var (pvl 2)))))
theorem ok_Incidence_scaled (T : TX P K mg) : OkC P w K mg base (He.fAd K ("Incidence", some "scaled")) ["self", "k"] 6 (spF K (He.ga K) 2 none DC.F_Incidence_scaled) := fn_okD (kio := none) (body := DC.B_Incidence_scaled) T.d_Incidence_scaled sc_Incidence_scaled bi_Incidence_scaled fun cdv A outer s H E hr =>
  (dss_one (ds_ret (de_makeG T.c_Incidence T.k_Incidence (ok_IncidenceU_initU T) (hr.mono (by decide)) gl_of T.m_Incidence takes_cx (da_cons (de_fld (dp_de (de_var (pvl 0)))) (da_cons (de_lc (own := [("row", 2)]) rfl sc_Incidence_scaled.nd (di_of (de_fld (dp_de (de_var (pvl 0))))) (blkOk_by (by kernel_rfl)) (by decide) (fun _ _ _ _ _ => (dg_name (i := 2) sc_Incidence_scaled.nd (by kernel_rfl) (.inl (by kernel_rfl)) (.inr (by kernel_rfl)))) (fun _ _ _ _ _ => dts_nil) (fun _ _ _ _ _ => (de_lc (own := [("value", 3)]) rfl sc_Incidence_scaled.nd (di_of (de_var (pvl 2))) (blkOk_by (by kernel_rfl)) (by decide) (fun _ _ _ _ _ => (dg_name (i := 3) sc_Incidence_scaled.nd (by kernel_rfl) (.inl (by kernel_rfl)) (.inr (by kernel_rfl)))) (fun _ _ _ _ _ => dts_nil) (fun _ _ _ _ _ => (de_mul (de_var (pvc 1)) (de_var (pvl 3))))))) da_nil)))))
theorem ok_law (T : TX P K mg) {fd : FuncData} {fa : Addr} (FD : FunD K d_law.name d_law.qual d_law.params d_law.body d_law.scope [] [] fa fd) : FnOk P w K mg base (L2.CX P w) 9 fa fd ["_law_script"] (spF K (He.ga K) 1 none F_law) := fn_okF (kio := none) (body := B_law) FD sc_law fun cdv A outer s H E hr =>
  (dss_cons (ds_set (i := 1) sc_law.nd (by kernel_rfl) (.inl (by kernel_rfl)) (de_callG (ok_law_numbers T) (hr.mono (by decide)) gl_of T.m__law_numbers takes_cx (da_cons (de_var (pvl 0)) da_nil)))
  (dss_cons (ds_set (i := 2) sc_law.nd (by kernel_rfl) (.inl (by kernel_rfl)) (de_fz (de_callLG (ok_law_order T) (hr.mono (by decide)) gl_of T.m__law_order takes_cx (da_lent (pvl 1) (da_cons de_int da_nil)))))
  (dss_cons (ds_set (i := 3) sc_law.nd (by kernel_rfl) (.inr (by kernel_rfl)) (de_meth0G (de_var (pvl 2)) T.c_Order T.q_Order_size (ok_Order_size T) (hr.mono (by decide)) takes_cx))
  (dss_cons (ds_set (i := 4) sc_law.nd (by kernel_rfl) (.inl (by kernel_rfl)) (de_fz (de_callG (ok_law_table T) (hr.mono (by decide)) gl_of T.m__law_table takes_cx (da_cons (de_var (pvl 2)) da_nil))))
  (dss_cons (ds_set (i := 5) sc_law.nd (by kernel_rfl) (.inl (by kernel_rfl)) (de_fz (de_callLG (ok_law_function T) (hr.mono (by decide)) gl_of T.m__law_function takes_cx (da_cons (de_var (pvl 2)) (da_lent (pvl 1) da_nil)))))
  (dss_cons (ds_set (i := 6) sc_law.nd (by kernel_rfl) (.inl (by kernel_rfl)) (de_fz (de_callLG (ok_law_function T) (hr.mono (by decide)) gl_of T.m__law_function takes_cx (da_cons (de_var (pvl 2)) (da_lent (pvl 1) da_nil)))))
  (dss_cons (ds_set (i := 7) sc_law.nd (by kernel_rfl) (.inl (by kernel_rfl)) (de_fz (de_makeG T.c_Incidence T.k_Incidence (ok_IncidenceU_initU T) (hr.mono (by decide)) gl_of T.m_Incidence takes_cx (da_cons (de_var (pvl 2)) (da_cons (de_var (pvl 5)) da_nil)))))
  (dss_cons (ds_set (i := 8) sc_law.nd (by kernel_rfl) (.inl (by kernel_rfl)) (de_fz (de_makeG T.c_Incidence T.k_Incidence (ok_IncidenceU_initU T) (hr.mono (by decide)) gl_of T.m_Incidence takes_cx (da_cons (de_var (pvl 2)) (da_cons (de_tuple gl_of T.m_tuple PySem.Pv.boot_tuple (dp_de (de_lc (own := [("_law_row", 14)]) rfl sc_law.nd (di_of (de_var (pvl 6))) (blkOk_by (by kernel_rfl)) (by decide) (fun _ _ _ _ _ => (dg_name (i := 14) sc_law.nd (by kernel_rfl) (.inl (by kernel_rfl)) (.inr (by kernel_rfl)))) (fun _ _ _ _ _ => dts_nil) (fun _ _ _ _ _ => (de_tuple gl_of T.m_tuple PySem.Pv.boot_tuple (dp_de (de_var (pvl 14)))))))) da_nil)))))
  (dss_cons (ds_if (dt_w (dw_or (dt_cr (cr_ne hr.units) (de_fld (dp_de (de_fz (de_binOG (C := "Incidence") (de_var (pvl 7)) (de_var (pvl 8)) T.sf_Incidence T.q_IncidenceU_mulU (ok_IncidenceU_mulU T) (hr.mono (by decide)) takes_cx)))) (de_callG (ok_law_times T) (hr.mono (by decide)) gl_of T.m__law_times takes_cx (da_cons (de_var (pvl 4)) (da_cons (de_var (pvl 5)) (da_cons (de_var (pvl 6)) da_nil))))) (dw_or (dt_cr (cr_ownNe (C := "Incidence") (ok_IncidenceU_eqU T) (hr.mono (by decide)) T.q_IncidenceU_eqU T.x_Incidence.noNe) (de_fz (de_binOG (C := "Incidence") (de_var (pvl 7)) (de_fz (de_callG (ok_delta T) (hr.mono (by decide)) gl_of T.m_delta takes_cx (da_cons (de_var (pvl 2)) da_nil))) T.sf_Incidence T.q_IncidenceU_mulU (ok_IncidenceU_mulU T) (hr.mono (by decide)) takes_cx)) (de_var (pvl 7))) (dw_or1 (dt_cr (cr_ownNe (C := "Incidence") (ok_IncidenceU_eqU T) (hr.mono (by decide)) T.q_IncidenceU_eqU T.x_Incidence.noNe) (de_fz (de_binOG (C := "Incidence") (de_fz (de_callG (ok_delta T) (hr.mono (by decide)) gl_of T.m_delta takes_cx (da_cons (de_var (pvl 2)) da_nil))) (de_var (pvl 7)) T.sf_Incidence T.q_IncidenceU_mulU (ok_IncidenceU_mulU T) (hr.mono (by decide)) takes_cx)) (de_var (pvl 7))))))) (dss_one (ds_ret de_bl)) dss_nil)
  (dss_cons (ds_frzN 1 (ds_set (i := 9) sc_law.nd (by kernel_rfl) (.inl (by kernel_rfl)) (de_sub (de_callLG (ok_law_next T) (hr.mono (by decide)) gl_of T.m__law_next takes_cx (da_lent (pvl 1) (da_cons de_int da_nil))) de_int)))
  (dss_cons (ds_for passes_cx rfl (di_rng1 gl_of T.m_range (de_var (pvc 3))) (dg_name (i := 10) sc_law.nd (by kernel_rfl) (.inl (by kernel_rfl)) (.inl rfl)) (dss_one (ds_for passes_cx rfl (di_rng1 gl_of T.m_range (de_var (pvc 3))) (dg_name (i := 12) sc_law.nd (by kernel_rfl) (.inl (by kernel_rfl)) (.inl rfl)) (dss_cons (ds_if (dt_w (dw_or (dt_cr (cr_ne hr.units) (de_methG (de_fz (de_binOG (C := "Incidence") (de_var (pvl 7)) (de_var (pvl 8)) T.sf_Incidence T.q_IncidenceU_addU (ok_IncidenceU_addU T) (hr.mono (by decide)) takes_cx)) T.c_Incidence T.q_Incidence_value (ok_Incidence_value T) (hr.mono (by decide)) takes_cx (da_cons (de_var (pvl 10)) (da_cons (de_var (pvl 12)) da_nil))) (de_add (de_ix (de_ix (de_var (pvl 5)) (de_var (pvl 10))) (de_var (pvl 12))) (de_ix (de_ix (de_var (pvl 6)) (de_var (pvl 10))) (de_var (pvl 12))))) (dw_or1 (dt_cr (cr_ne hr.units) (de_methG (de_fz (de_binOG (C := "Incidence") (de_var (pvl 7)) (de_var (pvl 8)) T.sf_Incidence T.q_IncidenceU_subU (ok_IncidenceU_subU T) (hr.mono (by decide)) takes_cx)) T.c_Incidence T.q_Incidence_value (ok_Incidence_value T) (hr.mono (by decide)) takes_cx (da_cons (de_var (pvl 10)) (da_cons (de_var (pvl 12)) da_nil))) (de_sub (de_ix (de_ix (de_var (pvl 5)) (de_var (pvl 10))) (de_var (pvl 12))) (de_ix (de_ix (de_var (pvl 6)) (de_var (pvl 10))) (de_var (pvl 12)))))))) (dss_one (ds_ret de_bl)) dss_nil)
  (dss_one (ds_if (dt_w (dw_or (dt_cr (cr_ne hr.units) (de_methG (de_fz (de_negOG (C := "Incidence") (de_var (pvl 7)) T.q_IncidenceU_negU (ok_IncidenceU_negU T) (hr.mono (by decide)) takes_cx)) T.c_Incidence T.q_Incidence_value (ok_Incidence_value T) (hr.mono (by decide)) takes_cx (da_cons (de_var (pvl 10)) (da_cons (de_var (pvl 12)) da_nil))) (de_neg (de_ix (de_ix (de_var (pvl 5)) (de_var (pvl 10))) (de_var (pvl 12))))) (dw_or1 (dt_cr (cr_ne hr.units) (de_methG (de_fz (de_methG (de_var (pvl 7)) T.c_Incidence T.q_Incidence_scaled (ok_Incidence_scaled T) (hr.mono (by decide)) takes_cx (da_cons (de_var (pvl 9)) da_nil))) T.c_Incidence T.q_Incidence_value (ok_Incidence_value T) (hr.mono (by decide)) takes_cx (da_cons (de_var (pvl 10)) (da_cons (de_var (pvl 12)) da_nil))) (de_mul (de_var (pvl 9)) (de_ix (de_ix (de_var (pvl 5)) (de_var (pvl 10))) (de_var (pvl 12)))))))) (dss_one (ds_ret de_bl)) dss_nil))) (by decide))) (by decide))
  (dss_cons (ds_if (dt_w (dw_or (dt_cr (cr_ownNe (C := "Incidence") (ok_IncidenceU_eqU T) (hr.mono (by decide)) T.q_IncidenceU_eqU T.x_Incidence.noNe) (de_methG (de_var (pvl 7)) T.c_Incidence T.q_Incidence_power (ok_Incidence_power T) (hr.mono (by decide)) takes_cx (da_cons de_int da_nil)) (de_fz (de_callG (ok_delta T) (hr.mono (by decide)) gl_of T.m_delta takes_cx (da_cons (de_var (pvl 2)) da_nil)))) (dw_or (dt_cr (cr_ownNe (C := "Incidence") (ok_IncidenceU_eqU T) (hr.mono (by decide)) T.q_IncidenceU_eqU T.x_Incidence.noNe) (de_methG (de_var (pvl 7)) T.c_Incidence T.q_Incidence_power (ok_Incidence_power T) (hr.mono (by decide)) takes_cx (da_cons de_int da_nil)) (de_fz (de_binOG (C := "Incidence") (de_fz (de_binOG (C := "Incidence") (de_var (pvl 7)) (de_var (pvl 7)) T.sf_Incidence T.q_IncidenceU_mulU (ok_IncidenceU_mulU T) (hr.mono (by decide)) takes_cx)) (de_var (pvl 7)) T.sf_Incidence T.q_IncidenceU_mulU (ok_IncidenceU_mulU T) (hr.mono (by decide)) takes_cx))) (dw_or1 (dt_cr cr_isnot (de_cr (cr_ownA hr.units (C := "Incidence") (ok_IncidenceU_eqU T) (hr.mono (by decide)) T.q_IncidenceU_eqU T.kn_Incidence) (de_var (pvl 7)) de_int) de_bl))))) (dss_one (ds_ret de_bl)) dss_nil)
  (dss_cons (ds_if (dt_w (dw_or (dt_cr (cr_ne hr.units) (de_cr (cr_ownA hr.units (C := "Incidence") (ok_IncidenceU_eqU T) (hr.mono (by decide)) T.q_IncidenceU_eqU T.kn_Incidence) (de_var (pvl 7)) (de_var (pvl 8))) (de_cr (cr_eq hr.units) (de_var (pvl 5)) (de_var (pvl 6)))) (dw_or (dt_not (dt_val (de_callG (ok_law_refuses T) (hr.mono (by decide)) gl_of T.m__law_refuses takes_cx (da_cons (de_var (pvl 2)) (da_cons (de_add (de_var (pvl 5)) (de_fz (de_lst (da_cons (de_lst da_nil) da_nil)))) da_nil))))) (dw_or1 (dt_not (dt_val (de_callG (ok_law_refuses T) (hr.mono (by decide)) gl_of T.m__law_refuses takes_cx (da_cons (de_var (pvl 2)) (da_cons de_non da_nil))))))))) (dss_one (ds_ret de_bl)) dss_nil)
  (dss_cons (ds_set (i := 11) sc_law.nd (by kernel_rfl) (.inl (by kernel_rfl)) (de_fz (de_makeG T.c_Incidence T.k_Incidence (ok_IncidenceU_initU T) (hr.mono (by decide)) gl_of T.m_Incidence takes_cx (da_cons (de_makeG T.c_Order T.k_Order (ok_OrderU_initU T) (hr.mono (by decide)) gl_of T.m_Order takes_cx (da_cons (de_add (de_var (pvc 3)) de_int) (da_cons (de_tup da_nil) da_nil))) (da_cons (de_lc (own := [("_law_x", 10)]) rfl sc_law.nd (di_rng1 gl_of T.m_range (de_add (de_var (pvc 3)) de_int)) (blkOk_by (by kernel_rfl)) (by decide) (fun _ _ _ _ _ => (dg_name (i := 10) sc_law.nd (by kernel_rfl) (.inl (by kernel_rfl)) (.inr (by kernel_rfl)))) (fun _ _ _ _ _ => dts_nil) (fun _ _ _ _ _ => (de_lc (own := [("_law_y", 12)]) rfl sc_law.nd (di_rng1 gl_of T.m_range (de_add (de_var (pvc 3)) de_int)) (blkOk_by (by kernel_rfl)) (by decide) (fun _ _ _ _ _ => (dg_name (i := 12) sc_law.nd (by kernel_rfl) (.inl (by kernel_rfl)) (.inr (by kernel_rfl)))) (fun _ _ _ _ _ => dts_nil) (fun _ _ _ _ _ => de_int)))) da_nil)))))
  (dss_cons (ds_if (dt_not (dt_val (de_callG (ok_law_unlike T) (hr.mono (by decide)) gl_of T.m__law_unlike takes_cx (da_cons (de_var (pvl 7)) (da_cons (de_var (pvl 11)) da_nil))))) (dss_one (ds_ret de_bl)) dss_nil)
  (dss_cons (ds_for passes_cx rfl (di_of (de_meth0G (de_var (pvl 2)) T.c_Order T.q_Order_pairs (ok_Order_pairs T) (hr.mono (by decide)) takes_cx)) (dg_tup rfl (.cons (pg_name (i := 10) sc_law.nd (by kernel_rfl) (.inl (by kernel_rfl)) (.inl rfl)) (.cons (pg_name (i := 12) sc_law.nd (by kernel_rfl) (.inl (by kernel_rfl)) (.inl rfl)) .nil (by kernel_rfl)) (by kernel_rfl)) rfl) (dss_cons (ds_setLc (i := 13) (own := [("_law_row", 14)]) rfl sc_law.nd (by kernel_rfl) (by kernel_rfl) (sw_true (by kernel_rfl) (by kernel_rfl) (by kernel_rfl) (by kernel_rfl)) (di_of (de_var (pvl 5))) (blkOk_by (by kernel_rfl)) (by decide) (fun _ _ _ _ _ => (dg_name (i := 14) sc_law.nd (by kernel_rfl) (.inl (by kernel_rfl)) (.inr (by kernel_rfl)))) (fun _ _ _ _ _ => dts_nil) (fun _ _ _ _ _ => (de_list gl_of T.m_list PySem.Pv.boot_list (dp_de (de_var (pvl 14))))))
  (dss_cons (ds_frzN 13 (ds_sub2 de_int (pvl 13) (dq_var (pvl 12)) (dq_var (pvl 10))))
  (dss_one (ds_ret (de_callG (ok_law_refuses T) (hr.mono (by decide)) gl_of T.m__law_refuses takes_cx (da_cons (de_var (pvl 2)) (da_cons (de_var (pvl 13)) da_nil))))))) (by decide))
  (dss_one (ds_ret de_bl))))))))))))))))))
end
end G25
namespace G25
open PySem L2 DL PyProof.Rows
def names0 : List PySem.Str := ["_wall", "Fault", "Malformed", "Refused", "is_integer", "members", "set_of", "has", "is_table", "Incidence", "check_same", "delta", "MOST", "_checked_pairs", "_closed", "Order", "_law_numbers", "_law_next", "_law_order", "_law_table"]
def names1 : List PySem.Str := ["_law_function", "_law_times", "_law_refuses", "_law_unlike"]
def names : List PySem.Str := names0 ++ names1
abbrev R : PySem.W.OpenRow := PySem.W.OpenLaw.row PySem.Challenge.rw_orderforms_k25_incidence_functions
abbrev hk : PySem.W.Hook := DL.hookY 6 file fa fn es ys
def ob (s : PySem.W.SharedT) : DL.AlY := DL.obsYG 6 file fa fn es ys (HandSHeadRun.getT s)
theorem ob_eq (s : PySem.W.SharedT) : ob s = hk.obs s.abs := DL.obsYG_eq (HandSHeadRun.getT_eq s)
theorem run (w : World) : HandSHeadRun.RunEq R (PySem.W.view R.prog [29]) hk ob 6000 names w := by
  intro os
  kernel_rfl
theorem facts {P : Program} {w : World} {K : PySem.W.Frag} {h : Heap} {mg : Str → Option Value} {f : Addr} (X : K.In h) (G : h.Ns mainGlobals mg) (hfa : mg ("law" : Str) = some (.ref f)) (c : DL.SaysY file fa fn es ys K) (hpf : P.main.file = file) (hpt : (P.main.scope.names.lookup ("super" : Str)).isSome = false) :
    ∃ fd : FuncData, (∀ (s : Shared) (v : Value), BindsTo s fd ⟨[v], []⟩ [("_law_script", v)]) ∧ ∀ base : Heap, K.In base → base.Ns mainGlobals mg → FnOk P w K mg base (L2.CX P w) 9 f fd ["_law_script"] (spF K (He.ga K) 1 none F_law) := by
  have T : TX P K mg := ⟨c, hpf, hpt, h, X, G⟩
  obtain ⟨fd, F⟩ := T.d_law
  have e := hfa.symm.trans (He.glo_ok X G (c.d.fact 55 (f := .glo "law") rfl))
  cases e
  have b := FunD.bindsA (ps := ["_law_script"]) F fun _ _ _ _ _ _ us hl => match us, hl with | [_], _ => by kernel_rfl
  exact ⟨fd, fun s v => b s [v] rfl, fun base _ _ => ok_law T F⟩
end G25
open PySem PySem.W PySem.Calls PyProof.Rows
set_option maxRecDepth 100000 in
set_option maxHeartbeats 0 in
theorem PySem.Challenge.cw_orderforms_k25_incidence_functions_holds : PySem.Challenge.rw_orderforms_k25_incidence_functions.Holds := by
  w_on; o_law
  refine HandSHeadRun.head_any (r := OpenLaw.row PySem.Challenge.rw_orderforms_k25_incidence_functions) (q := view (OpenLaw.row PySem.Challenge.rw_orderforms_k25_incidence_functions).prog [29]) (H := G25.hk) (ob := G25.ob) (M := 6000) (loose := G25.names) (d := HandSHeadRun.topDef (OpenLaw.row PySem.Challenge.rw_orderforms_k25_incidence_functions).prog 29) (kwd := []) G25.ob_eq
    (by kernel_rfl) (fun s => by kernel_rfl) G25.run (by kernel_rfl) (by kernel_rfl) (by kernel_rfl) (by rfl) (by first | assumption | decide +kernel) (by decide +kernel) ⟨rfl, rfl, rfl, rfl, rfl, by decide +kernel⟩ ?hw ?hc
  case hw => w_witness2
  case hc =>
    refine DL.law_end (l := PySem.Challenge.rw_orderforms_k25_incidence_functions) (k := 9) (x := "_law_script") (cA := He.ga) (F := G25.F_law) rfl (by kernel_rfl) ⟨rfl, by decide, by decide⟩ ?HF G25.law_true
    intro w mg fa h Y G hmg0
    obtain ⟨K, KX, c⟩ := Y
    have hmg : mg ("law" : PySem.Str) = some (.ref fa) := by
      have e : (HandSHeadRun.topDef (OpenLaw.row PySem.Challenge.rw_orderforms_k25_incidence_functions).prog 29).name = ("law" : PySem.Str) := by kernel_rfl
      rw [← e]
      exact hmg0
    obtain ⟨fd, hb, hF⟩ := G25.facts (P := (PySem.Challenge.rw_orderforms_k25_incidence_functions).prog) (w := w) KX G hmg c (by kernel_rfl) (by kernel_rfl)
    exact ⟨K, fd, KX, hb, hF⟩
