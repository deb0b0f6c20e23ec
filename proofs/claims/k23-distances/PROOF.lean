import PyProof.Rows.All
import Wide.All
import OpenK.AllK
import Wide.FinOn
import KE.KStateDown
import Lean
import HandS.ForMost
import HandS.Defaults
import HandS.Head0
import HandS.Head1
import HandS.Head2
import HandS.HeadEnd
import HandS.HeadHook1
import HandS.HeadHook2
import HandS.HeadHook3
import HandS.HeadHook4
import HandS.More
import HandS.IsInst
import HandS.SortKw
import HandS.SortInts
import HandS.Evl
import HandS.Wide
import HandS.WideBits
import HandS.Replace
import HandS.RaiseMore
import HandS.Flt
import HandS.Deep
import HandS.SetFor
import HandS.Steps
import HandS.More
import HandS.TryOnly
import HandS.ExcOwn
import HandS.ExcIs
import HandS.ExcInit
import HandS.ExcField
import HandS.WordsExc
import HandS.FStr
import KE.KExcIs
import KE.BitLaws
import PySem.Challenge.RW_homereads_k23_distances_and_ends
set_option Elab.async false
set_option linter.all false
set_option maxRecDepth 100000
set_option maxHeartbeats 4000000
namespace Fw
open PySem PySem.Spec PyProof.Rows L2

/-! ### facts that stay while the heap grows -/
structure Ck where
  p : Hp → Prop
  mono : ∀ {F F' : Hp}, Same F F' → p F → p F'
def AllC : List Ck → Hp → Prop
  | [], _ => True
  | c :: r, F => c.p F ∧ AllC r F
theorem AllC.mono : ∀ {Cs : List Ck} {F F' : Hp}, Same F F' → AllC Cs F → AllC Cs F'
  | [], _, _, _, _ => trivial
  | c :: r, _, _, s, h => ⟨c.mono s h.1, AllC.mono s h.2⟩
theorem AllC.get : ∀ {Cs : List Ck} {F : Hp} {i : Nat} {c : Ck}, AllC Cs F → Cs[i]? = some c → c.p F
  | [], _, _, _, _, e => by simp at e
  | c :: r, _, 0, _, h, e => by
    have e1 : c = _ := Option.some.inj e
    rw [← e1]
    exact h.1
  | c :: r, _, i + 1, d, h, e => AllC.get (Cs := r) (i := i) (c := d) h.2 e
def cL (a : Addr) (xs : List V) : Ck := ⟨fun F => F a = some (.lst xs), fun s h => s _ _ h⟩
def cT (a : Addr) (xs : List V) : Ck := ⟨fun F => F a = some (.tup xs), fun s h => s _ _ h⟩
def cO (a : Addr) (o : HO) : Ck := ⟨fun F => F a = some o, fun s h => s _ _ h⟩
theorem Same.sqt {K : PySem.W.Frag} {H H' : Hp} {a : Addr} {xs : List V} (e : Same H H') (h : SqT K H a xs) : SqT K H' a xs := by
  rcases h with (h | ⟨o, h⟩) | h
  · exact .inl (.inl (e _ _ h))
  · exact .inl (.inr ⟨o, e _ _ h⟩)
  · exact .inr h
mutual
theorem Dp.mono {K : PySem.W.Frag} {H H' : Hp} (e : Same H H') : ∀ (d : PyData) (v : V), Dp K H v d → Dp K H' v d
  | .none, _, h => by cases h; exact .non
  | .bool b, _, h => by cases h; exact .bl b
  | .int i, _, h => by cases h; exact .int i
  | .str x, _, h => by cases h; exact .str x
  | .list ds, _, h => by
    cases h with
    | lst hs ha => exact .lst (e.seq hs) (DpAll.mono e ds _ ha)
  | .tuple ds, _, h => by
    cases h with
    | tup hs ha => exact .tup (Same.sqt e hs) (DpAll.mono e ds _ ha)
  | .dict _, _, h => by cases h
theorem DpAll.mono {K : PySem.W.Frag} {H H' : Hp} (e : Same H H') : ∀ (ds : List PyData) (vs : List V), DpAll K H vs ds → DpAll K H' vs ds
  | [], _, h => by cases h; exact .nil
  | d :: ds, _, h => by
    cases h with
    | cons h1 h2 => exact .cons (Dp.mono e d _ h1) (DpAll.mono e ds _ h2)
end
def cS (K : PySem.W.Frag) (a : Addr) (xs : List V) : Ck := ⟨fun F => SqL K F a xs, fun s h => s.seq h⟩
def cU (K : PySem.W.Frag) (a : Addr) (xs : List V) : Ck := ⟨fun F => SqT K F a xs, fun s h => Same.sqt s h⟩
def cD (K : PySem.W.Frag) (v : V) (d : PyData) : Ck := ⟨fun F => Dp K F v d, fun s h => Dp.mono s _ _ h⟩
def cDs (K : PySem.W.Frag) (vs : List V) (ds : List PyData) : Ck := ⟨fun F => DpAll K F vs ds, fun s h => DpAll.mono s _ _ h⟩

/-! ### the heap's parts -/
/-- F0, H0: frozen part and heap at the entry; F: the frozen part now, H: the heap now; L: the def's own objects, each may still change -/
structure Own (F0 H0 F H : Hp) (L : List (Addr × HO)) (C : List Ck) : Prop where
  f0 : Same F0 F
  fh : Same F H
  hh : Same H0 H
  new : ∀ a o, F a = some o → F0 a = some o ∨ H0 a = none
  own : ∀ q ∈ L, F q.1 = none ∧ H0 q.1 = none ∧ H q.1 = some q.2
  nd : (L.map Prod.fst).Nodup
  cs : AllC C F
/-- what a call may do: F' F grown by new objects, all kept -/
structure Ext (F H F' H' : Hp) : Prop where
  ff : Same F F'
  fh : Same F' H'
  hh : Same H H'
  new : ∀ a o, F' a = some o → F a = some o ∨ H a = none
structure OwnNew (H F' H' : Hp) (L : List (Addr × HO)) : Prop where
  at_ : ∀ q ∈ L, F' q.1 = none ∧ H q.1 = none ∧ H' q.1 = some q.2
  nd : (L.map Prod.fst).Nodup
section
variable {F0 H0 F H F' H' : Hp} {L L' : List (Addr × HO)} {C C' : List Ck} {p a : Addr} {o o' : HO} {K : PySem.W.Frag} {xs : List V} {i : Nat}
theorem Own.start (s : Same F H) (cs : AllC C F) : Own F H F H [] C := ⟨Same.refl _, s, Same.refl _, fun _ _ h => .inl h, fun _ h => (nomatch h), List.nodup_nil, cs⟩
theorem Own.ck (O : Own F0 H0 F H L C) (i : Nat) {c : Ck} (h : C[i]? = some c := by rfl) : c.p F := O.cs.get h
theorem Own.push (O : Own F0 H0 F H L C) (c : Ck) (h : c.p F) : Own F0 H0 F H L (c :: C) := { O with cs := ⟨h, O.cs⟩ }
theorem Own.chunks (O : Own F0 H0 F H L C) (h : AllC C' F) : Own F0 H0 F H L C' := { O with cs := h }
theorem Own.at_ (O : Own F0 H0 F H L C) (i : Nat) {a : Addr} {o : HO} (h : L[i]? = some (a, o) := by rfl) : H a = some o := (O.own (a, o) (List.mem_of_getElem? h)).2.2
theorem Own.none0 (O : Own F0 H0 F H L C) (np : H p = none) : F p = none ∧ H0 p = none := ⟨O.fh.free np, O.hh.free np⟩
theorem Own.alloc (O : Own F0 H0 F H L C) (np : H p = none) (o : HO) : Own F0 H0 F (upd H p o) ((p, o) :: L) C := by
  have s : Same H (upd H p o) := fun b u e => by rw [upd_ne (ne_of_none e np)]; exact e
  refine ⟨O.f0, O.fh.trans s, O.hh.trans s, O.new, fun q hq => ?_, ?_, O.cs⟩
  · rcases List.mem_cons.mp hq with e | hq
    · subst e
      exact ⟨(O.none0 np).1, (O.none0 np).2, upd_same⟩
    · obtain ⟨h1, h2, h3⟩ := O.own q hq
      exact ⟨h1, h2, s _ _ h3⟩
  · rw [List.map_cons]
    refine List.nodup_cons.mpr ⟨fun hm => ?_, O.nd⟩
    obtain ⟨q, hq, e⟩ := List.mem_map.mp hm
    have h3 := (O.own q hq).2.2
    rw [e, np] at h3
    cases h3
/-- a new object that is frozen at once -/
theorem Own.ice (O : Own F0 H0 F H L C) (np : H p = none) (o : HO) : Own F0 H0 (upd F p o) (upd H p o) L (cO p o :: C) := by
  have s : Same H (upd H p o) := fun b u e => by rw [upd_ne (ne_of_none e np)]; exact e
  have sF : Same F (upd F p o) := fun b u e => by rw [upd_ne (ne_of_none e (O.none0 np).1)]; exact e
  refine ⟨O.f0.trans sF, fun b u e => ?_, O.hh.trans s, fun b u e => ?_, fun q hq => ?_, O.nd, ⟨upd_same, O.cs.mono sF⟩⟩
  · by_cases hb : b = p
    · subst hb
      rw [upd_same] at e ⊢
      exact e
    · rw [upd_ne hb] at e ⊢
      exact O.fh b u e
  · by_cases hb : b = p
    · subst hb
      exact .inr (O.none0 np).2
    · rw [upd_ne hb] at e
      exact O.new b u e
  · obtain ⟨h1, h2, h3⟩ := O.own q hq
    refine ⟨?_, h2, s _ _ h3⟩
    rw [upd_ne (ne_of_none h3 np)]
    exact h1
theorem nodup_map_get {L : List (Addr × HO)} (nd : (L.map Prod.fst).Nodup) {i j : Nat} {q r : Addr × HO} (h1 : L[i]? = some q) (h2 : L[j]? = some r) (e : q.1 = r.1) : i = j := by
  have a1 : (L.map Prod.fst)[i]? = some q.1 := by rw [List.getElem?_map, h1]; rfl
  have a2 : (L.map Prod.fst)[j]? = some q.1 := by rw [List.getElem?_map, h2, e]; rfl
  obtain ⟨l1, e1⟩ := List.getElem?_eq_some_iff.mp a1
  obtain ⟨l2, e2⟩ := List.getElem?_eq_some_iff.mp a2
  exact (List.getElem_inj nd).mp (e1.trans e2.symm)
theorem Own.set (O : Own F0 H0 F H L C) (i : Nat) {a : Addr} {o : HO} (hi : L[i]? = some (a, o)) (o' : HO) : Own F0 H0 F (upd H a o') (L.set i (a, o')) C := by
  obtain ⟨hF, hH0, hH⟩ := O.own (a, o) (List.mem_of_getElem? hi)
  have keep : ∀ b u, b ≠ a → H b = some u → upd H a o' b = some u := fun b u n e => by rw [upd_ne n]; exact e
  refine ⟨O.f0, fun b u e => keep b u (ne_of_none e hF) (O.fh b u e), fun b u e => keep b u (ne_of_none e hH0) (O.hh b u e), O.new, fun q hq => ?_, ?_, O.cs⟩
  · obtain ⟨j, hj⟩ := List.mem_iff_getElem?.mp hq
    by_cases e : i = j
    · subst e
      have hlt : i < L.length := (List.getElem?_eq_some_iff.mp hi).1
      rw [List.getElem?_set_self hlt] at hj
      cases hj
      exact ⟨hF, hH0, upd_same⟩
    · rw [List.getElem?_set_ne e] at hj
      obtain ⟨h1, h2, h3⟩ := O.own q (List.mem_of_getElem? hj)
      exact ⟨h1, h2, keep _ _ (fun z => e (nodup_map_get O.nd hi hj z.symm)) h3⟩
  · have e : (L.set i (a, o')).map Prod.fst = L.map Prod.fst := by
      rw [List.map_set]
      refine List.ext_getElem? fun j => ?_
      by_cases h : i = j
      · subst h
        have hlt : i < (L.map Prod.fst).length := by rw [List.length_map]; exact (List.getElem?_eq_some_iff.mp hi).1
        rw [List.getElem?_set_self hlt, List.getElem?_map, hi]
        rfl
      · rw [List.getElem?_set_ne h]
    rw [e]
    exact O.nd
theorem Own.sub (O : Own F0 H0 F H L C) (h : L'.Sublist L) : Own F0 H0 F H L' C := ⟨O.f0, O.fh, O.hh, O.new, fun q hq => O.own q (h.subset hq), O.nd.sublist (h.map _), O.cs⟩
/-- the last made own object is frozen -/
theorem Own.freeze (O : Own F0 H0 F H ((p, o) :: L) C) : Own F0 H0 (upd F p o) H L (cO p o :: C) := by
  obtain ⟨hF, hH0, hH⟩ := O.own (p, o) List.mem_cons_self
  have sF : Same F (upd F p o) := fun b u e => by rw [upd_ne (ne_of_none e hF)]; exact e
  have nd := O.nd
  rw [List.map_cons] at nd
  obtain ⟨n1, n2⟩ := List.nodup_cons.mp nd
  refine ⟨O.f0.trans sF, fun b u e => ?_, O.hh, fun b u e => ?_, fun q hq => ?_, n2, ⟨upd_same, O.cs.mono sF⟩⟩
  · by_cases hb : b = p
    · subst hb
      rw [upd_same] at e
      cases e
      exact hH
    · rw [upd_ne hb] at e
      exact O.fh b u e
  · by_cases hb : b = p
    · subst hb
      exact .inr hH0
    · rw [upd_ne hb] at e
      exact O.new b u e
  · obtain ⟨h1, h2, h3⟩ := O.own q (List.mem_cons_of_mem _ hq)
    refine ⟨?_, h2, h3⟩
    rw [upd_ne (fun z => n1 (by
      have m := List.mem_map_of_mem (f := Prod.fst) hq
      rw [z] at m
      exact m))]
    exact h1
theorem Own.grow (O : Own F0 H0 F H L C) (e : Ext F H F' H') (n : OwnNew H F' H' L') : Own F0 H0 F' H' (L' ++ L) C := by
  refine ⟨O.f0.trans e.ff, e.fh, O.hh.trans e.hh, fun b u h => ?_, fun q hq => ?_, ?_, O.cs.mono e.ff⟩
  · rcases e.new b u h with h | h
    · exact O.new b u h
    · exact .inr (O.hh.free h)
  · rcases List.mem_append.mp hq with hq | hq
    · obtain ⟨h1, h2, h3⟩ := n.at_ q hq
      exact ⟨h1, O.hh.free h2, h3⟩
    · obtain ⟨h1, h2, h3⟩ := O.own q hq
      refine ⟨?_, h2, e.hh _ _ h3⟩
      cases z : F' q.1 with
      | none => rfl
      | some u =>
        rcases e.new _ _ z with h | h
        · rw [h1] at h; cases h
        · rw [h3] at h; cases h
  · rw [List.map_append]
    refine List.nodup_append.mpr ⟨n.nd, O.nd, fun x hx y hy e2 => ?_⟩
    obtain ⟨q, hq, rfl⟩ := List.mem_map.mp hx
    obtain ⟨r, hr, rfl⟩ := List.mem_map.mp hy
    have h3 := (O.own r hr).2.2
    rw [← e2, (n.at_ q hq).2.1] at h3
    cases h3
/-- the heap alone grew -/
theorem Own.more (O : Own F0 H0 F H L C) (e : Same H H') : Own F0 H0 F H' L C := by
  have g := O.grow (F' := F) (H' := H') (L' := []) ⟨Same.refl _, O.fh.trans e, e, fun _ _ h => .inl h⟩ ⟨fun _ h => (nomatch h), List.nodup_nil⟩
  exact g
theorem Own.ext (O : Own F H F' H' L C) : Ext F H F' H' := ⟨O.f0, O.fh, O.hh, O.new⟩
theorem Own.news (O : Own F H F' H' L C) : OwnNew H F' H' L := ⟨fun q hq => let ⟨h1, h2, h3⟩ := O.own q hq; ⟨h1, h2, h3⟩, O.nd⟩
/-! what stands where -/
theorem Own.lst (O : Own F0 H0 F H L C) (i : Nat) {a : Addr} {xs : List V} (h : L[i]? = some (a, .lst xs) := by rfl) : SqL K H a xs := .inl (.inl (O.at_ i h))
theorem Own.tL (O : Own F0 H0 F H L C) (i : Nat) {a : Addr} {xs : List V} (h : C[i]? = some (cL a xs) := by rfl) : H a = some (.lst xs) := O.fh _ _ (O.cs.get h)
theorem Own.tT (O : Own F0 H0 F H L C) (i : Nat) {a : Addr} {xs : List V} (h : C[i]? = some (cT a xs) := by rfl) : H a = some (.tup xs) := O.fh _ _ (O.cs.get h)
theorem Own.tO (O : Own F0 H0 F H L C) (i : Nat) {a : Addr} {o : HO} (h : C[i]? = some (cO a o) := by rfl) : H a = some o := O.fh _ _ (O.cs.get h)
theorem Own.tS (O : Own F0 H0 F H L C) (i : Nat) {a : Addr} {xs : List V} (h : C[i]? = some (cS K a xs) := by rfl) : SqL K H a xs := O.fh.seq (O.cs.get h)
theorem Own.tU (O : Own F0 H0 F H L C) (i : Nat) {a : Addr} {xs : List V} (h : C[i]? = some (cU K a xs) := by rfl) : SqT K H a xs := Same.sqt O.fh (O.cs.get h)
theorem Own.tD (O : Own F0 H0 F H L C) (i : Nat) {v : V} {d : PyData} (h : C[i]? = some (cD K v d) := by rfl) : Dp K H v d := Dp.mono O.fh _ _ (O.cs.get h)
end

/-! ### promises -/
/-- a def whose result is told by R: the value, its new own objects, the frozen part behind it -/
def Spec (A : Hp → Prop) (R : V → List (Addr × HO) → Hp → Prop) (H : Hp) (Q : VK) : Prop :=
  ∃ F, Same F H ∧ A F ∧ ∀ F' H' v L, Ext F H F' H' → OwnNew H F' H' L → R v L F' → Q v H'
section
variable {F0 H0 F H F' H' : Hp} {L L' : List (Addr × HO)} {C C' : List Ck} {A : Hp → Prop} {R : V → List (Addr × HO) → Hp → Prop} {Q : VK}
theorem Own.call (O : Own F0 H0 F H L C) (hA : A F) (k : ∀ v L' F' H', R v L' F' → Own F0 H0 F' H' (L' ++ L) C → Q v H') : Spec A R H Q :=
  ⟨F, O.fh, hA, fun _ _ _ _ e n r => k _ _ _ _ r (O.grow e n)⟩
theorem Own.ret (O : Own F H F' H' L C) {v : V} (q : ∀ F' H' v L, Ext F H F' H' → OwnNew H F' H' L → R v L F' → Q v H') (r : R v L F') : Q v H' := q _ _ _ _ O.ext O.news r
end
/-- a fresh list of flat things -/
def RL (P : List V → Prop) : V → List (Addr × HO) → Hp → Prop := fun v L _ => ∃ p xs, v = .ref p ∧ L = [(p, .lst xs)] ∧ P xs
/-- a plain value -/
def RV (P : V → Prop) : V → List (Addr × HO) → Hp → Prop := fun v L _ => L = [] ∧ P v
/-- frozen data -/
def RD (K : PySem.W.Frag) (P : PyData → Prop) : V → List (Addr × HO) → Hp → Prop := fun v L F => ∃ d, L = [] ∧ Dp K F v d ∧ P d

def Lk (K : PySem.W.Frag) (f : Addr) (fd : FuncData) : Prop := ∃ oc od osl, K.lookup f = some ⟨oc, od, .func fd, osl⟩
/-- a def that keeps its promise, with what a caller needs -/
def Dn (P : Program) (w : World) (K : PySem.W.Frag) (mg : Str → Option Value) (base : Heap) (k : Nat) (f : Addr) (ps : List Str) (sp : Sp) : Prop :=
  ∃ fd, FnOk P w K mg base CX0 k f fd ps sp ∧ Binds K fd ps [] ∧ PySem.W.keepIn K (.ref f) = true ∧ Lk K f fd
abbrev FnP (K : PySem.W.Frag) (x q : Str) (st : Stmt) (f : Addr) (fd : FuncData) : Prop := FunD K x q (defArgs st) (defBody st) (defScope st) [] [] f fd

/-! ### steps -/
section
variable {nx bk ct : L2.St → Hp → Prop} {rt : VK} {t u : TS} {σ : L2.St} {H : Hp} {te ta tb : TE} {tt tt' : TT} {Q : VK} {i : Nat} {v x y : V} {g : TG}
theorem w_seq (h : t ⟨u ⟨nx, rt, bk, ct⟩, rt, bk, ct⟩ σ H) : tSeq t u ⟨nx, rt, bk, ct⟩ σ H := h
theorem w_next (h : nx σ H) : tNext ⟨nx, rt, bk, ct⟩ σ H := h
theorem w_brk (h : bk σ H) : tBreak ⟨nx, rt, bk, ct⟩ σ H := h
theorem w_cont (h : ct σ H) : tCont ⟨nx, rt, bk, ct⟩ σ H := h
theorem w_asg (h : te σ H fun x H1 => nx (σ.set i (some x)) H1) : tAsg te (gName i) ⟨nx, rt, bk, ct⟩ σ H := h
theorem w_asgG (h : te σ H fun x H1 => g x σ H1 nx) : tAsg te g ⟨nx, rt, bk, ct⟩ σ H := h
theorem w_aug {f : Int → Int → Int} {a : Int} (hx : σ[i]? = some (some (.int a))) (h : te σ H fun y H1 => ∃ b, y = .int b ∧ nx (σ.set i (some (.int (f a b)))) H1) : tAug i te (ipI f) ⟨nx, rt, bk, ct⟩ σ H := by
  refine ⟨_, hx, ?_⟩
  have e : (fun y H1 => ∃ b, y = V.int b ∧ nx (σ.set i (some (.int (f a b)))) H1) = (fun y H1 => ipI f (.int a) y H1 fun z H2 => nx (σ.set i (some z)) H2) := by
    funext y H1
    apply propext
    constructor
    · rintro ⟨b, rfl, q⟩
      exact ⟨a, b, rfl, rfl, q⟩
    · rintro ⟨a', b, e1, rfl, q⟩
      cases e1
      exact ⟨b, rfl, q⟩
  rw [e] at h
  exact h
theorem w_ret (h : te σ H rt) : tRet te ⟨nx, rt, bk, ct⟩ σ H := h
theorem w_retN (h : rt .non H) : tRetN ⟨nx, rt, bk, ct⟩ σ H := h
theorem w_drop (h : te σ H fun _ H1 => nx σ H1) : tDrop te ⟨nx, rt, bk, ct⟩ σ H := h
theorem w_if (h : tt σ H fun b H1 => if b = true then t ⟨nx, rt, bk, ct⟩ σ H1 else u ⟨nx, rt, bk, ct⟩ σ H1) : tIfS tt t u ⟨nx, rt, bk, ct⟩ σ H := h
theorem w_var (h : σ[i]? = some (some v)) (q : Q v H) : tVar i σ H Q := ⟨v, h, q⟩
theorem w_c (q : Q v H) : tC v σ H Q := q
theorem w_op {r : R2} (h : ta σ H fun x H1 => tb σ H1 fun y H2 => r x y H2 Q) : tOp r ta tb σ H Q := h
theorem w_un {r : V → Hp → VK → Prop} (h : ta σ H fun x H1 => r x H1 Q) : tUn r ta σ H Q := h
theorem w_cb {r : List V → Hp → VK → Prop} {tA : TA} (h : tA σ H fun vs H1 => r vs H1 Q) : tCB r tA σ H Q := h
theorem w_nil {Q : List V → Hp → Prop} (h : Q [] H) : tNil σ H Q := h
theorem w_cons {tA : TA} {Q : List V → Hp → Prop} (h : ta σ H fun x H1 => tA σ H1 fun xs H2 => Q (x :: xs) H2) : tCons ta tA σ H Q := h
theorem w_call {sp : Sp} {dvs : List V} {E : XK} {tA : TA} (h : tA σ H fun vs H1 => sp (vs ++ dvs) H1 Q E) : tCall sp dvs E tA σ H Q := h
theorem w_test {Q : Bool → Hp → Prop} (h : te σ H fun x H1 => ∃ k, x = .bl k ∧ Q k H1) : tTest te σ H Q := h
theorem w_tB {Q : Bool → Hp → Prop} (h : te σ H fun x H1 => ∃ k, x = .bl k ∧ Q k H1) : tB te σ H Q := h
theorem w_bl {Q : Bool → Prop} {b : Bool} (h : Q b) : ∃ k, V.bl b = .bl k ∧ Q k := ⟨b, rfl, h⟩
theorem w_intP {Q : Int → Prop} {b : Int} (h : Q b) : ∃ k, V.int b = .int k ∧ Q k := ⟨b, rfl, h⟩
theorem w_and {Q : Bool → Hp → Prop} (h : tt σ H fun c H1 => if c = true then tt' σ H1 Q else Q false H1) : tAnd tt tt' σ H Q := h
theorem w_or {Q : Bool → Hp → Prop} (h : tt σ H fun c H1 => if c = true then Q true H1 else tt' σ H1 Q) : tOr tt tt' σ H Q := h
theorem w_not {Q : Bool → Hp → Prop} (h : tt σ H fun c H1 => Q (!c) H1) : tNot tt σ H Q := h
theorem w_andV (h : ta σ H fun x H1 => ∃ c, x = .bl c ∧ if c = true then tb σ H1 Q else Q (.bl false) H1) : tAndV ta tb σ H Q := h
theorem w_orV (h : ta σ H fun x H1 => ∃ c, x = .bl c ∧ if c = true then Q (.bl true) H1 else tb σ H1 Q) : tOrV ta tb σ H Q := h
theorem w_notV (h : ta σ H fun x H1 => ∃ c, x = .bl c ∧ Q (.bl (!c)) H1) : tNotV ta σ H Q := h
theorem w_ifE (h : tt σ H fun c H1 => if c = true then ta σ H1 Q else tb σ H1 Q) : tIf tt ta tb σ H Q := h
theorem w_iteD {c : Prop} [Decidable c] {A B : Prop} (h1 : c → A) (h2 : ¬ c → B) : if decide c = true then A else B := by
  by_cases h : c
  · rw [if_pos (decide_eq_true h)]; exact h1 h
  · rw [if_neg (by rw [decide_eq_false h]; decide)]; exact h2 h
theorem w_iteN {c : Prop} [Decidable c] {A B : Prop} (h1 : ¬ c → A) (h2 : c → B) : if (!decide c) = true then A else B := by
  by_cases h : c
  · rw [if_neg (by rw [decide_eq_true h]; decide)]; exact h2 h
  · rw [if_pos (by rw [decide_eq_false h]; rfl)]; exact h1 h
theorem w_iteB {b : Bool} {A B : Prop} (h1 : b = true → A) (h2 : b = false → B) : if b = true then A else B := by
  cases b with
  | true => rw [if_pos rfl]; exact h1 rfl
  | false => rw [if_neg Bool.false_ne_true]; exact h2 rfl
theorem w_I0 {g : Int → Int → V} {i j : Int} (q : Q (g i j) H) : rI0 g (.int i) (.int j) H Q := ⟨i, j, rfl, rfl, q⟩
theorem w_I {P : Int → Int → Prop} {g : Int → Int → V} {i j : Int} (q : Q (g i j) H) (hc : P i j) : rI P g (.int i) (.int j) H Q := ⟨i, j, rfl, rfl, hc, q⟩
theorem w_U {g : Int → V} {i : Int} (q : Q (g i) H) : rU g (.int i) H Q := ⟨i, rfl, q⟩
theorem w_eqI {i j : Int} (q : Q (.bl (decide (i = j))) H) : rEq (.int i) (.int j) H Q := ⟨rfl, by
  rw [show decide (V.int i = V.int j) = decide (i = j) from decide_eq_decide.mpr ⟨fun h => V.int.inj h, fun h => by rw [h]⟩]
  exact q⟩
theorem w_neI {i j : Int} (q : Q (.bl (!decide (i = j))) H) : rNe (.int i) (.int j) H Q := ⟨rfl, by
  rw [show decide (V.int i = V.int j) = decide (i = j) from decide_eq_decide.mpr ⟨fun h => V.int.inj h, fun h => by rw [h]⟩]
  exact q⟩
theorem w_eqS {i j : Str} (q : Q (.bl (decide (i = j))) H) : rEq (.str i) (.str j) H Q := ⟨rfl, by
  rw [show decide (V.str i = V.str j) = decide (i = j) from decide_eq_decide.mpr ⟨fun h => V.str.inj h, fun h => by rw [h]⟩]
  exact q⟩
theorem w_neS {i j : Str} (q : Q (.bl (!decide (i = j))) H) : rNe (.str i) (.str j) H Q := ⟨rfl, by
  rw [show decide (V.str i = V.str j) = decide (i = j) from decide_eq_decide.mpr ⟨fun h => V.str.inj h, fun h => by rw [h]⟩]
  exact q⟩
theorem w_eqB {i j : Bool} (q : Q (.bl (decide (i = j))) H) : rEq (.bl i) (.bl j) H Q := ⟨rfl, by
  rw [show decide (V.bl i = V.bl j) = decide (i = j) from decide_eq_decide.mpr ⟨fun h => V.bl.inj h, fun h => by rw [h]⟩]
  exact q⟩
theorem w_neB {i j : Bool} (q : Q (.bl (!decide (i = j))) H) : rNe (.bl i) (.bl j) H Q := ⟨rfl, by
  rw [show decide (V.bl i = V.bl j) = decide (i = j) from decide_eq_decide.mpr ⟨fun h => V.bl.inj h, fun h => by rw [h]⟩]
  exact q⟩
end
end Fw

namespace Fw
open PySem PySem.Spec PyProof.Rows L2

/-! ### texts by their signs -/
def S (l : List Nat) : Str := ⟨l.toArray⟩
theorem S_inj {l m : List Nat} : S l = S m ↔ l = m := ⟨fun h => by
  have e := congrArg (fun z : Str => z.cps.toList) h
  simpa [S] using e, fun h => by rw [h]⟩
theorem S_len (l : List Nat) : (S l).length = l.length := by simp [S, Str.length]
theorem S_app (l m : List Nat) : S l ++ S m = S (l ++ m) := by
  show Str.append (S l) (S m) = S (l ++ m)
  unfold Str.append S
  simp
theorem S_of (z : Str) : z = S z.cps.toList := by
  obtain ⟨a⟩ := z
  simp [S]
theorem S_list (l : List Nat) : (S l).cps.toList = l := by simp [S]
/-- l[lo:hi] -/
def cutN (l : List Nat) (lo hi : Option Int) : List Nat := (l.drop (HT.sIx l.length 0 lo)).take (HT.sIx l.length l.length hi - HT.sIx l.length 0 lo)
theorem S_cut (l : List Nat) (lo hi : Option Int) : cutS (S l) lo hi = S (cutN l lo hi) := by
  unfold cutS cutN
  rw [S_len, S_list]
  rfl
abbrev vS (l : List Nat) : V := .str (S l)

/-! ### rules with named readings -/
section
variable {X : Cx}
theorem pe_strL {x : Str} {l : List Nat} {j : Nat} {pos : Pos} (h : x = S l) : PE X (.Constant (.str x) j pos) (tC (vS l)) := by
  rw [h]
  exact pe_str
theorem pe_globS {x : Str} {l : List Nat} {pos : Pos} (hg : Gl X x) (hm : ∃ t, X.mg x = some (.str (S l) t)) (hd : (x == ("__debug__" : Str)) = false := by decide) : PE X (.Name x pos) (tC (vS l)) := by
  obtain ⟨t, hm⟩ := hm
  exact pe_glob hg hm ⟨_, rfl⟩ hd
theorem pe_globI {x : Str} {i : Int} {pos : Pos} (hg : Gl X x) (hm : ∃ t, X.mg x = some (.int i t)) (hd : (x == ("__debug__" : Str)) = false := by decide) : PE X (.Name x pos) (tC (.int i)) := by
  obtain ⟨t, hm⟩ := hm
  exact pe_glob hg hm ⟨_, rfl⟩ hd
theorem pe_globR {x : Str} {a : Addr} {pos : Pos} (hg : Gl X x) (hm : X.mg x = some (.ref a)) (hd : (x == ("__debug__" : Str)) = false := by decide) : PE X (.Name x pos) (tC (.ref a)) := pe_glob hg hm rfl hd
def rAbs : List V → Hp → VK → Prop := fun xs H Q => ∃ i : Int, xs = [.int i] ∧ Q (.int (i.natAbs : Nat)) H
theorem k_abs : CallR X (.builtin "abs") rAbs := by
  intro pins s σ H vs us Q I r h
  obtain ⟨i, e, q⟩ := h
  refine call_abs pins s σ H vs us Q I r ⟨i, e, ?_⟩
  have e2 : (if i < 0 then -i else i) = ((i.natAbs : Nat) : Int) := by split <;> omega
  rw [e2]
  exact q
def rInt : List V → Hp → VK → Prop := fun xs H Q => ∃ i : Int, xs = [.int i] ∧ Q (.int i) H
theorem k_int : CallR X (.type "int") rInt := fun pins s σ H vs us Q I r ⟨i, e, q⟩ => call_int1 pins s σ H vs us Q I r (.inl ⟨i, e, q⟩)
def rIntB : List V → Hp → VK → Prop := fun xs H Q => ∃ b : Bool, xs = [.bl b] ∧ Q (.int (if b then 1 else 0)) H
theorem k_intB : CallR X (.type "int") rIntB := fun pins s σ H vs us Q I r ⟨i, e, q⟩ => call_int1 pins s σ H vs us Q I r (.inr ⟨i, e, q⟩)
def rLenS : List V → Hp → VK → Prop := fun xs H Q => ∃ l, xs = [vS l] ∧ l.length ≤ sizeLine ∧ Q (.int (l.length : Nat)) H
theorem k_lenS : CallR X (.builtin "len") rLenS := fun pins s σ H vs us Q I r ⟨l, e, hz, q⟩ => call_len_str pins s σ H vs us Q I r ⟨S l, e, by rw [S_len]; exact hz, by rw [S_len]; exact q⟩
def rAddS : R2 := fun x y H Q => ∃ l m, x = vS l ∧ y = vS m ∧ l.length + m.length ≤ sizeLine ∧ Q (vS (l ++ m)) H
theorem k_addS : OpR X (binaryOp .Add) rAddS := fun pins s σ H x y u v Q I rx ry ⟨l, m, e1, e2, hz, q⟩ => op_add_str pins s σ H x y u v Q I rx ry ⟨S l, S m, e1, e2, by rw [S_len, S_len]; exact hz, by rw [S_app]; exact q⟩
def rIxSg : R2 := fun x y H Q => ∃ l i c, x = vS l ∧ y = .int i ∧ l.length ≤ sizeLine ∧ atI l i = some c ∧ Q (vS [c]) H
theorem k_ixS : IxR X rIxSg := by
  intro value slice pins s σ H x y u v Q I rx ry h
  obtain ⟨l, i, c, e1, e2, hz, ha, q⟩ := h
  exact ix_str value slice pins s σ H x y u v Q I rx ry ⟨S l, i, c, e1, e2, by rw [S_len]; exact hz, by rw [S_list]; exact ha, q⟩
def rSlSg : V → Option Int → Option Int → Hp → VK → Prop := fun x lo hi H Q => ∃ l, x = vS l ∧ l.length ≤ sizeLine ∧ Q (vS (cutN l lo hi)) H
theorem SlR.weak {r r' : V → Option Int → Option Int → Hp → VK → Prop} (h : SlR X r) (w : ∀ x lo hi H Q, r' x lo hi H Q → r x lo hi H Q) : SlR X r' := by
  unfold SlR at *
  intros
  rename_i a b
  first
    | exact h _ _ _ _ _ _ _ _ _ _ _ _ (by assumption) (by assumption) (by assumption) (by assumption) (by assumption) (w _ _ _ _ _ (by assumption))
theorem k_slS : SlR X rSlSg := SlR.weak sl_str fun x lo hi H Q ⟨l, e, hz, q⟩ => ⟨S l, e, by rw [S_len]; exact hz, by rw [S_cut]; exact q⟩
def rIsi (K : PySem.W.Frag) : List V → Hp → VK → Prop := L2.rIsi K
theorem k_isi : CallR X (.builtin "isinstance") (rIsi X.K) := call_isi
def rLenQ (K : PySem.W.Frag) : List V → Hp → VK → Prop := fun vs H Q => ∃ a xs, vs = [.ref a] ∧ (SqL K H a xs ∨ SqT K H a xs) ∧ Q (.int (xs.length : Nat)) H
theorem k_lenQ : CallR X (.builtin "len") (rLenQ X.K) := fun pins s σ H vs us Q I r ⟨a, xs, e, h, q⟩ => call_len_seq pins s σ H vs us Q I r ⟨a, xs, e, h, q⟩
/-! the written part by its own letter -/
theorem ixL_ {K : PySem.W.Frag} (e : X.K = K := by rfl) : IxR X (rIxL K) := e ▸ ix_list
theorem ixT_ {K : PySem.W.Frag} (e : X.K = K := by rfl) : IxR X (rIxT K) := e ▸ ix_tup
theorem lenQ_ {K : PySem.W.Frag} (e : X.K = K := by rfl) : CallR X (.builtin "len") (rLenQ K) := e ▸ k_lenQ
theorem isi_ {K : PySem.W.Frag} (e : X.K = K := by rfl) : CallR X (.builtin "isinstance") (rIsi K) := e ▸ k_isi
theorem eqD_ {K : PySem.W.Frag} (hu : X.A.units + 64 < cLine) (e : X.K = K := by rfl) : OpR X (compareOp .Eq) (rEqD K) := e ▸ op_eqD hu
theorem neD_ {K : PySem.W.Frag} (hu : X.A.units + 64 < cLine) (e : X.K = K := by rfl) : OpR X (compareOp .NotEq) (rNeD K) := e ▸ op_neD hu
theorem inQ_ {K : PySem.W.Frag} (e : X.K = K := by rfl) : OpR X (compareOp .In) (rIn K false) := e ▸ op_in_seq
theorem notInQ_ {K : PySem.W.Frag} (e : X.K = K := by rfl) : OpR X (compareOp .NotIn) (rIn K true) := e ▸ op_notIn_seq
theorem max_ {K : PySem.W.Frag} (hc : X.calm = true) (e : X.K = K := by rfl) : CallR X (.builtin "max") (rMax K) := e ▸ cr_max hc
theorem min_ {K : PySem.W.Frag} (hc : X.calm = true) (e : X.K = K := by rfl) : CallR X (.builtin "min") (rMin K) := e ▸ cr_min hc
theorem sum_ {K : PySem.W.Frag} (hc : X.calm = true) (e : X.K = K := by rfl) : CallR X (.builtin "sum") (rSum K) := e ▸ cr_sum hc
theorem all_ {K : PySem.W.Frag} (hc : X.calm = true) (e : X.K = K := by rfl) : CallR X (.builtin "all") (rAll K) := e ▸ cr_all hc
theorem any_ {K : PySem.W.Frag} (hc : X.calm = true) (e : X.K = K := by rfl) : CallR X (.builtin "any") (rAny K) := e ▸ cr_any hc
theorem slL_ {K : PySem.W.Frag} (e : X.K = K := by rfl) : SlR X (rSlL K) := e ▸ sl_list
theorem slT_ {K : PySem.W.Frag} (e : X.K = K := by rfl) : SlR X (rSlT K) := e ▸ sl_tup
theorem iL_ {K : PySem.W.Frag} {tg l : Expr} {tl : TE} (h : PE X l tl) (e : X.K = K := by rfl) : PI X tg l (iList K tl) := e ▸ pi_list h
theorem iT_ {K : PySem.W.Frag} {tg l : Expr} {tl : TE} (h : PE X l tl) (e : X.K = K := by rfl) : PI X tg l (iTup K tl) := e ▸ pi_tup h
section
variable {K : PySem.W.Frag} {T : String} {name : Str} {id : String} {o e : Expr} {es : List Expr} {apos cpos p pos tpos : Pos} {r : V → List V → Hp → VK → Prop} {to : TE} {t ta : TA} {tg : Expr}
theorem bm0_ (pa : PlainAttrs T) (slot : Slot T name id) (hty : typeOf (.builtin id) = pure (.type "method_descriptor")) (hm : MtR X id r) (ho : PE X o to) (eK : X.K = K := by rfl)
    (hbase : attributeBase o name X.env (eval o X.env) = eval o X.env := by rfl) (hline : (apos.endLine == cpos.line) = true := by rfl) : PE X (.Call (.Attribute o name apos) [] [] cpos) (tBM0 K T r to) := by
  subst eK
  exact pe_bm0 pa slot hty hm ho hbase hline
theorem bm_ (pa : PlainAttrs T) (slot : Slot T name id) (hty : typeOf (.builtin id) = pure (.type "method_descriptor")) (hm : MtR X id r) (ho : PE X o to) (ha : PA X (e :: es) t) (eK : X.K = K := by rfl)
    (hbase : attributeBase o name X.env (eval o X.env) = eval o X.env := by rfl)
    (hfew : ((backTo cpos (starEach (e :: es) X.env)).all (fun x => !x.1) && (backToKw cpos (keywordEach [] X.env)).all (fun x => x.1.isSome)
      && decide ((e :: es).length + ([] : List Keyword).length + (if ([] : List Keyword).isEmpty then 0 else 1) < 30)) = true := by rfl)
    (hline : (apos.endLine == cpos.line) = true := by rfl) (hs : starEach (e :: es) X.env = (false, eval e X.env) :: starEach es X.env := by rfl) (hplain : (backTo cpos (starEach es X.env)).any (·.1) = false := by rfl) :
    PE X (.Call (.Attribute o name apos) (e :: es) [] cpos) (tBM K T r to t) := by
  subst eK
  exact pe_bm pa slot hty hm ho ha hbase hfew hline hs hplain
theorem gt_ {es : List Expr} {k : Nat} {t : TGs} {n : Nat} (hc : X.calm = true) (h : PGs X es t) (eK : X.K = K := by rfl)
    (hn : (assignEach es X.env).length = n := by rfl) (hst : (assignEach es X.env).findIdx? (·.1) = none := by rfl) : PG X (.Tuple es k pos) (gTup K n t) := by
  subst eK
  exact pg_tup hc h hn hst
theorem rev_ (hg : Gl X "reversed") (hm : X.mg "reversed" = none) (ha : PA X [e] ta) (eK : X.K = K := by rfl) (hs : starEach [e] X.env = [(false, eval e X.env)] := by rfl) : PI X tg (.Call (.Name "reversed" p) [e] [] pos) (iRev K ta) := by
  subst eK
  exact pi_reversed hg hm ha hs
theorem enum_ {elts : List Expr} {kk : Nat} (hg : Gl X "enumerate") (hm : X.mg "enumerate" = none) (ha : PA X [e] ta) (eK : X.K = K := by rfl) (hs : starEach [e] X.env = [(false, eval e X.env)] := by rfl) : PI X (.Tuple elts kk tpos) (.Call (.Name "enumerate" p) [e] [] pos) (iEnum K ta) := by
  subst eK
  exact pi_enum hg hm ha hs
theorem sortRev_ {b : Bool} (eK : X.K = K := by rfl) : CallRK X (.builtin "sorted") [Str.ofString "reverse"] (rSortedKw K b [.bl b]) := eK ▸ cr_sortedRev
end
/-- text * n -/
def rMulS : R2 := fun x y H Q => ∃ l, ∃ k : Int, x = vS l ∧ y = .int k ∧ 0 ≤ k ∧ k < 2 ^ 30 ∧ l.length * k.toNat ≤ sizeLine ∧ Q (vS (List.replicate k.toNat l).flatten) H
theorem mul_flat (l : List Nat) : ∀ n acc, ((List.replicate n l.toArray).foldl (fun (a b : Array Nat) => a ++ b) acc) = acc ++ (List.replicate n l).flatten.toArray
  | 0, acc => by simp
  | n + 1, acc => by
    rw [List.replicate_succ, List.foldl_cons, mul_flat l n, List.replicate_succ, List.flatten_cons]
    simp
theorem txt_mul {l : List Nat} {k : Int} (hk : 0 ≤ k) : Txt.mul (S l) k = S (List.replicate k.toNat l).flatten := by
  unfold Txt.mul
  by_cases h1 : k < 1
  · have e : k = 0 := by omega
    subst e
    rw [if_pos h1]
    rfl
  · rw [if_neg h1]
    by_cases h2 : (k == 1 || (S l).length == 0) = true
    · rw [if_pos h2]
      rcases (Bool.or_eq_true _ _).mp h2 with e | e
      · have e1 : k = 1 := eq_of_beq e
        subst e1
        show S l = S (List.replicate 1 l).flatten
        simp
      · have e1 : (S l).length = 0 := eq_of_beq e
        rw [S_len] at e1
        have e2 : l = [] := List.eq_nil_of_length_eq_zero e1
        subst e2
        show S [] = _
        rw [S_inj]
        induction k.toNat with
        | zero => rfl
        | succ n ih => rw [List.replicate_succ, List.flatten_cons, ← ih]; rfl
    · rw [if_neg h2]
      show (⟨(List.replicate k.toNat l.toArray).foldl (fun (a b : Array Nat) => a ++ b) #[]⟩ : Str) = _
      rw [mul_flat]
      simp [S]
theorem k_mulS : OpR X (binaryOp .Mult) rMulS := by
  intro pins s σ H x y u v Q I rx ry h
  obtain ⟨l, k, rfl, rfl, h0, h1, hz, q⟩ := h
  obtain ⟨t, rfl⟩ := rx
  obtain ⟨t2, rfl⟩ := ry
  rw [sizeLine_eq] at hz
  refine SB.mul (x := S l) ⟨?_, fun a b => ?_, fun a b => ?_⟩ fun t' tk => ⟨vS (List.replicate k.toNat l).flatten, H, I.tok tk, ⟨t', by rw [txt_mul h0]⟩, q⟩
  · rw [decide_eq_false (by omega), decide_eq_false (by omega)] <;> rfl
  · rw [S_len]
    have h3 : (l.length : Int) * k ≤ 16777216 := by
      have e : ((l.length * k.toNat : Nat) : Int) = (l.length : Int) * k := by
        rw [Int.natCast_mul, Int.toNat_of_nonneg h0]
      omega
    have h4 : (l.length : Int) ≤ (2 ^ 63 - 1) / k := by
      refine Int.le_ediv_of_mul_le (by omega) ?_
      omega
    omega
  · rw [S_len]
    exact decide_eq_false (by rw [sizeLine_eq]; omega)
end
end Fw

namespace Fw
open PySem PySem.Spec PyProof.Rows L2
section
variable {nx bk ct : L2.St → Hp → Prop} {rt : VK} {t u tb : TS} {H : Hp} {te ta tb' : TE} {Q : VK} {v x y : V} {g : TG}

theorem w_var0 {σ : L2.St} (q : Q v H) : tVar 0 (some v :: σ) H Q := ⟨v, rfl, q⟩
theorem w_asg0 {o : Option V} {σ : L2.St} (h : te (o :: σ) H fun x H1 => nx (some x :: σ) H1) : tAsg te (gName 0) ⟨nx, rt, bk, ct⟩ (o :: σ) H := h
theorem w_gn0 {o : Option V} {σ : L2.St} {R : L2.St → Hp → Prop} (h : R (some v :: σ) H) : gName 0 v (o :: σ) H R := h
theorem w_aug0 {f : Int → Int → Int} {a : Int} {σ : L2.St} (h : te (some (.int a) :: σ) H fun y H1 => ∃ b, y = .int b ∧ nx (some (.int (f a b)) :: σ) H1) : tAug 0 te (ipI f) ⟨nx, rt, bk, ct⟩ (some (.int a) :: σ) H := w_aug (i := 0) rfl h
theorem w_var1 {x0 : Option V} {σ : L2.St} (q : Q v H) : tVar 1 (x0 :: some v :: σ) H Q := ⟨v, rfl, q⟩
theorem w_asg1 {x0 : Option V} {o : Option V} {σ : L2.St} (h : te (x0 :: o :: σ) H fun x H1 => nx (x0 :: some x :: σ) H1) : tAsg te (gName 1) ⟨nx, rt, bk, ct⟩ (x0 :: o :: σ) H := h
theorem w_gn1 {x0 : Option V} {o : Option V} {σ : L2.St} {R : L2.St → Hp → Prop} (h : R (x0 :: some v :: σ) H) : gName 1 v (x0 :: o :: σ) H R := h
theorem w_aug1 {x0 : Option V} {f : Int → Int → Int} {a : Int} {σ : L2.St} (h : te (x0 :: some (.int a) :: σ) H fun y H1 => ∃ b, y = .int b ∧ nx (x0 :: some (.int (f a b)) :: σ) H1) : tAug 1 te (ipI f) ⟨nx, rt, bk, ct⟩ (x0 :: some (.int a) :: σ) H := w_aug (i := 1) rfl h
theorem w_var2 {x0 x1 : Option V} {σ : L2.St} (q : Q v H) : tVar 2 (x0 :: x1 :: some v :: σ) H Q := ⟨v, rfl, q⟩
theorem w_asg2 {x0 x1 : Option V} {o : Option V} {σ : L2.St} (h : te (x0 :: x1 :: o :: σ) H fun x H1 => nx (x0 :: x1 :: some x :: σ) H1) : tAsg te (gName 2) ⟨nx, rt, bk, ct⟩ (x0 :: x1 :: o :: σ) H := h
theorem w_gn2 {x0 x1 : Option V} {o : Option V} {σ : L2.St} {R : L2.St → Hp → Prop} (h : R (x0 :: x1 :: some v :: σ) H) : gName 2 v (x0 :: x1 :: o :: σ) H R := h
theorem w_aug2 {x0 x1 : Option V} {f : Int → Int → Int} {a : Int} {σ : L2.St} (h : te (x0 :: x1 :: some (.int a) :: σ) H fun y H1 => ∃ b, y = .int b ∧ nx (x0 :: x1 :: some (.int (f a b)) :: σ) H1) : tAug 2 te (ipI f) ⟨nx, rt, bk, ct⟩ (x0 :: x1 :: some (.int a) :: σ) H := w_aug (i := 2) rfl h
theorem w_var3 {x0 x1 x2 : Option V} {σ : L2.St} (q : Q v H) : tVar 3 (x0 :: x1 :: x2 :: some v :: σ) H Q := ⟨v, rfl, q⟩
theorem w_asg3 {x0 x1 x2 : Option V} {o : Option V} {σ : L2.St} (h : te (x0 :: x1 :: x2 :: o :: σ) H fun x H1 => nx (x0 :: x1 :: x2 :: some x :: σ) H1) : tAsg te (gName 3) ⟨nx, rt, bk, ct⟩ (x0 :: x1 :: x2 :: o :: σ) H := h
theorem w_gn3 {x0 x1 x2 : Option V} {o : Option V} {σ : L2.St} {R : L2.St → Hp → Prop} (h : R (x0 :: x1 :: x2 :: some v :: σ) H) : gName 3 v (x0 :: x1 :: x2 :: o :: σ) H R := h
theorem w_aug3 {x0 x1 x2 : Option V} {f : Int → Int → Int} {a : Int} {σ : L2.St} (h : te (x0 :: x1 :: x2 :: some (.int a) :: σ) H fun y H1 => ∃ b, y = .int b ∧ nx (x0 :: x1 :: x2 :: some (.int (f a b)) :: σ) H1) : tAug 3 te (ipI f) ⟨nx, rt, bk, ct⟩ (x0 :: x1 :: x2 :: some (.int a) :: σ) H := w_aug (i := 3) rfl h
theorem w_var4 {x0 x1 x2 x3 : Option V} {σ : L2.St} (q : Q v H) : tVar 4 (x0 :: x1 :: x2 :: x3 :: some v :: σ) H Q := ⟨v, rfl, q⟩
theorem w_asg4 {x0 x1 x2 x3 : Option V} {o : Option V} {σ : L2.St} (h : te (x0 :: x1 :: x2 :: x3 :: o :: σ) H fun x H1 => nx (x0 :: x1 :: x2 :: x3 :: some x :: σ) H1) : tAsg te (gName 4) ⟨nx, rt, bk, ct⟩ (x0 :: x1 :: x2 :: x3 :: o :: σ) H := h
theorem w_gn4 {x0 x1 x2 x3 : Option V} {o : Option V} {σ : L2.St} {R : L2.St → Hp → Prop} (h : R (x0 :: x1 :: x2 :: x3 :: some v :: σ) H) : gName 4 v (x0 :: x1 :: x2 :: x3 :: o :: σ) H R := h
theorem w_aug4 {x0 x1 x2 x3 : Option V} {f : Int → Int → Int} {a : Int} {σ : L2.St} (h : te (x0 :: x1 :: x2 :: x3 :: some (.int a) :: σ) H fun y H1 => ∃ b, y = .int b ∧ nx (x0 :: x1 :: x2 :: x3 :: some (.int (f a b)) :: σ) H1) : tAug 4 te (ipI f) ⟨nx, rt, bk, ct⟩ (x0 :: x1 :: x2 :: x3 :: some (.int a) :: σ) H := w_aug (i := 4) rfl h
theorem w_var5 {x0 x1 x2 x3 x4 : Option V} {σ : L2.St} (q : Q v H) : tVar 5 (x0 :: x1 :: x2 :: x3 :: x4 :: some v :: σ) H Q := ⟨v, rfl, q⟩
theorem w_asg5 {x0 x1 x2 x3 x4 : Option V} {o : Option V} {σ : L2.St} (h : te (x0 :: x1 :: x2 :: x3 :: x4 :: o :: σ) H fun x H1 => nx (x0 :: x1 :: x2 :: x3 :: x4 :: some x :: σ) H1) : tAsg te (gName 5) ⟨nx, rt, bk, ct⟩ (x0 :: x1 :: x2 :: x3 :: x4 :: o :: σ) H := h
theorem w_gn5 {x0 x1 x2 x3 x4 : Option V} {o : Option V} {σ : L2.St} {R : L2.St → Hp → Prop} (h : R (x0 :: x1 :: x2 :: x3 :: x4 :: some v :: σ) H) : gName 5 v (x0 :: x1 :: x2 :: x3 :: x4 :: o :: σ) H R := h
theorem w_aug5 {x0 x1 x2 x3 x4 : Option V} {f : Int → Int → Int} {a : Int} {σ : L2.St} (h : te (x0 :: x1 :: x2 :: x3 :: x4 :: some (.int a) :: σ) H fun y H1 => ∃ b, y = .int b ∧ nx (x0 :: x1 :: x2 :: x3 :: x4 :: some (.int (f a b)) :: σ) H1) : tAug 5 te (ipI f) ⟨nx, rt, bk, ct⟩ (x0 :: x1 :: x2 :: x3 :: x4 :: some (.int a) :: σ) H := w_aug (i := 5) rfl h
theorem w_var6 {x0 x1 x2 x3 x4 x5 : Option V} {σ : L2.St} (q : Q v H) : tVar 6 (x0 :: x1 :: x2 :: x3 :: x4 :: x5 :: some v :: σ) H Q := ⟨v, rfl, q⟩
theorem w_asg6 {x0 x1 x2 x3 x4 x5 : Option V} {o : Option V} {σ : L2.St} (h : te (x0 :: x1 :: x2 :: x3 :: x4 :: x5 :: o :: σ) H fun x H1 => nx (x0 :: x1 :: x2 :: x3 :: x4 :: x5 :: some x :: σ) H1) : tAsg te (gName 6) ⟨nx, rt, bk, ct⟩ (x0 :: x1 :: x2 :: x3 :: x4 :: x5 :: o :: σ) H := h
theorem w_gn6 {x0 x1 x2 x3 x4 x5 : Option V} {o : Option V} {σ : L2.St} {R : L2.St → Hp → Prop} (h : R (x0 :: x1 :: x2 :: x3 :: x4 :: x5 :: some v :: σ) H) : gName 6 v (x0 :: x1 :: x2 :: x3 :: x4 :: x5 :: o :: σ) H R := h
theorem w_aug6 {x0 x1 x2 x3 x4 x5 : Option V} {f : Int → Int → Int} {a : Int} {σ : L2.St} (h : te (x0 :: x1 :: x2 :: x3 :: x4 :: x5 :: some (.int a) :: σ) H fun y H1 => ∃ b, y = .int b ∧ nx (x0 :: x1 :: x2 :: x3 :: x4 :: x5 :: some (.int (f a b)) :: σ) H1) : tAug 6 te (ipI f) ⟨nx, rt, bk, ct⟩ (x0 :: x1 :: x2 :: x3 :: x4 :: x5 :: some (.int a) :: σ) H := w_aug (i := 6) rfl h
theorem w_var7 {x0 x1 x2 x3 x4 x5 x6 : Option V} {σ : L2.St} (q : Q v H) : tVar 7 (x0 :: x1 :: x2 :: x3 :: x4 :: x5 :: x6 :: some v :: σ) H Q := ⟨v, rfl, q⟩
theorem w_asg7 {x0 x1 x2 x3 x4 x5 x6 : Option V} {o : Option V} {σ : L2.St} (h : te (x0 :: x1 :: x2 :: x3 :: x4 :: x5 :: x6 :: o :: σ) H fun x H1 => nx (x0 :: x1 :: x2 :: x3 :: x4 :: x5 :: x6 :: some x :: σ) H1) : tAsg te (gName 7) ⟨nx, rt, bk, ct⟩ (x0 :: x1 :: x2 :: x3 :: x4 :: x5 :: x6 :: o :: σ) H := h
theorem w_gn7 {x0 x1 x2 x3 x4 x5 x6 : Option V} {o : Option V} {σ : L2.St} {R : L2.St → Hp → Prop} (h : R (x0 :: x1 :: x2 :: x3 :: x4 :: x5 :: x6 :: some v :: σ) H) : gName 7 v (x0 :: x1 :: x2 :: x3 :: x4 :: x5 :: x6 :: o :: σ) H R := h
theorem w_aug7 {x0 x1 x2 x3 x4 x5 x6 : Option V} {f : Int → Int → Int} {a : Int} {σ : L2.St} (h : te (x0 :: x1 :: x2 :: x3 :: x4 :: x5 :: x6 :: some (.int a) :: σ) H fun y H1 => ∃ b, y = .int b ∧ nx (x0 :: x1 :: x2 :: x3 :: x4 :: x5 :: x6 :: some (.int (f a b)) :: σ) H1) : tAug 7 te (ipI f) ⟨nx, rt, bk, ct⟩ (x0 :: x1 :: x2 :: x3 :: x4 :: x5 :: x6 :: some (.int a) :: σ) H := w_aug (i := 7) rfl h
theorem w_var8 {x0 x1 x2 x3 x4 x5 x6 x7 : Option V} {σ : L2.St} (q : Q v H) : tVar 8 (x0 :: x1 :: x2 :: x3 :: x4 :: x5 :: x6 :: x7 :: some v :: σ) H Q := ⟨v, rfl, q⟩
theorem w_asg8 {x0 x1 x2 x3 x4 x5 x6 x7 : Option V} {o : Option V} {σ : L2.St} (h : te (x0 :: x1 :: x2 :: x3 :: x4 :: x5 :: x6 :: x7 :: o :: σ) H fun x H1 => nx (x0 :: x1 :: x2 :: x3 :: x4 :: x5 :: x6 :: x7 :: some x :: σ) H1) : tAsg te (gName 8) ⟨nx, rt, bk, ct⟩ (x0 :: x1 :: x2 :: x3 :: x4 :: x5 :: x6 :: x7 :: o :: σ) H := h
theorem w_gn8 {x0 x1 x2 x3 x4 x5 x6 x7 : Option V} {o : Option V} {σ : L2.St} {R : L2.St → Hp → Prop} (h : R (x0 :: x1 :: x2 :: x3 :: x4 :: x5 :: x6 :: x7 :: some v :: σ) H) : gName 8 v (x0 :: x1 :: x2 :: x3 :: x4 :: x5 :: x6 :: x7 :: o :: σ) H R := h
theorem w_aug8 {x0 x1 x2 x3 x4 x5 x6 x7 : Option V} {f : Int → Int → Int} {a : Int} {σ : L2.St} (h : te (x0 :: x1 :: x2 :: x3 :: x4 :: x5 :: x6 :: x7 :: some (.int a) :: σ) H fun y H1 => ∃ b, y = .int b ∧ nx (x0 :: x1 :: x2 :: x3 :: x4 :: x5 :: x6 :: x7 :: some (.int (f a b)) :: σ) H1) : tAug 8 te (ipI f) ⟨nx, rt, bk, ct⟩ (x0 :: x1 :: x2 :: x3 :: x4 :: x5 :: x6 :: x7 :: some (.int a) :: σ) H := w_aug (i := 8) rfl h
theorem w_var9 {x0 x1 x2 x3 x4 x5 x6 x7 x8 : Option V} {σ : L2.St} (q : Q v H) : tVar 9 (x0 :: x1 :: x2 :: x3 :: x4 :: x5 :: x6 :: x7 :: x8 :: some v :: σ) H Q := ⟨v, rfl, q⟩
theorem w_asg9 {x0 x1 x2 x3 x4 x5 x6 x7 x8 : Option V} {o : Option V} {σ : L2.St} (h : te (x0 :: x1 :: x2 :: x3 :: x4 :: x5 :: x6 :: x7 :: x8 :: o :: σ) H fun x H1 => nx (x0 :: x1 :: x2 :: x3 :: x4 :: x5 :: x6 :: x7 :: x8 :: some x :: σ) H1) : tAsg te (gName 9) ⟨nx, rt, bk, ct⟩ (x0 :: x1 :: x2 :: x3 :: x4 :: x5 :: x6 :: x7 :: x8 :: o :: σ) H := h
theorem w_gn9 {x0 x1 x2 x3 x4 x5 x6 x7 x8 : Option V} {o : Option V} {σ : L2.St} {R : L2.St → Hp → Prop} (h : R (x0 :: x1 :: x2 :: x3 :: x4 :: x5 :: x6 :: x7 :: x8 :: some v :: σ) H) : gName 9 v (x0 :: x1 :: x2 :: x3 :: x4 :: x5 :: x6 :: x7 :: x8 :: o :: σ) H R := h
theorem w_aug9 {x0 x1 x2 x3 x4 x5 x6 x7 x8 : Option V} {f : Int → Int → Int} {a : Int} {σ : L2.St} (h : te (x0 :: x1 :: x2 :: x3 :: x4 :: x5 :: x6 :: x7 :: x8 :: some (.int a) :: σ) H fun y H1 => ∃ b, y = .int b ∧ nx (x0 :: x1 :: x2 :: x3 :: x4 :: x5 :: x6 :: x7 :: x8 :: some (.int (f a b)) :: σ) H1) : tAug 9 te (ipI f) ⟨nx, rt, bk, ct⟩ (x0 :: x1 :: x2 :: x3 :: x4 :: x5 :: x6 :: x7 :: x8 :: some (.int a) :: σ) H := w_aug (i := 9) rfl h
theorem w_var10 {x0 x1 x2 x3 x4 x5 x6 x7 x8 x9 : Option V} {σ : L2.St} (q : Q v H) : tVar 10 (x0 :: x1 :: x2 :: x3 :: x4 :: x5 :: x6 :: x7 :: x8 :: x9 :: some v :: σ) H Q := ⟨v, rfl, q⟩
theorem w_asg10 {x0 x1 x2 x3 x4 x5 x6 x7 x8 x9 : Option V} {o : Option V} {σ : L2.St} (h : te (x0 :: x1 :: x2 :: x3 :: x4 :: x5 :: x6 :: x7 :: x8 :: x9 :: o :: σ) H fun x H1 => nx (x0 :: x1 :: x2 :: x3 :: x4 :: x5 :: x6 :: x7 :: x8 :: x9 :: some x :: σ) H1) : tAsg te (gName 10) ⟨nx, rt, bk, ct⟩ (x0 :: x1 :: x2 :: x3 :: x4 :: x5 :: x6 :: x7 :: x8 :: x9 :: o :: σ) H := h
theorem w_gn10 {x0 x1 x2 x3 x4 x5 x6 x7 x8 x9 : Option V} {o : Option V} {σ : L2.St} {R : L2.St → Hp → Prop} (h : R (x0 :: x1 :: x2 :: x3 :: x4 :: x5 :: x6 :: x7 :: x8 :: x9 :: some v :: σ) H) : gName 10 v (x0 :: x1 :: x2 :: x3 :: x4 :: x5 :: x6 :: x7 :: x8 :: x9 :: o :: σ) H R := h
theorem w_aug10 {x0 x1 x2 x3 x4 x5 x6 x7 x8 x9 : Option V} {f : Int → Int → Int} {a : Int} {σ : L2.St} (h : te (x0 :: x1 :: x2 :: x3 :: x4 :: x5 :: x6 :: x7 :: x8 :: x9 :: some (.int a) :: σ) H fun y H1 => ∃ b, y = .int b ∧ nx (x0 :: x1 :: x2 :: x3 :: x4 :: x5 :: x6 :: x7 :: x8 :: x9 :: some (.int (f a b)) :: σ) H1) : tAug 10 te (ipI f) ⟨nx, rt, bk, ct⟩ (x0 :: x1 :: x2 :: x3 :: x4 :: x5 :: x6 :: x7 :: x8 :: x9 :: some (.int a) :: σ) H := w_aug (i := 10) rfl h
theorem w_var11 {x0 x1 x2 x3 x4 x5 x6 x7 x8 x9 x10 : Option V} {σ : L2.St} (q : Q v H) : tVar 11 (x0 :: x1 :: x2 :: x3 :: x4 :: x5 :: x6 :: x7 :: x8 :: x9 :: x10 :: some v :: σ) H Q := ⟨v, rfl, q⟩
theorem w_asg11 {x0 x1 x2 x3 x4 x5 x6 x7 x8 x9 x10 : Option V} {o : Option V} {σ : L2.St} (h : te (x0 :: x1 :: x2 :: x3 :: x4 :: x5 :: x6 :: x7 :: x8 :: x9 :: x10 :: o :: σ) H fun x H1 => nx (x0 :: x1 :: x2 :: x3 :: x4 :: x5 :: x6 :: x7 :: x8 :: x9 :: x10 :: some x :: σ) H1) : tAsg te (gName 11) ⟨nx, rt, bk, ct⟩ (x0 :: x1 :: x2 :: x3 :: x4 :: x5 :: x6 :: x7 :: x8 :: x9 :: x10 :: o :: σ) H := h
theorem w_gn11 {x0 x1 x2 x3 x4 x5 x6 x7 x8 x9 x10 : Option V} {o : Option V} {σ : L2.St} {R : L2.St → Hp → Prop} (h : R (x0 :: x1 :: x2 :: x3 :: x4 :: x5 :: x6 :: x7 :: x8 :: x9 :: x10 :: some v :: σ) H) : gName 11 v (x0 :: x1 :: x2 :: x3 :: x4 :: x5 :: x6 :: x7 :: x8 :: x9 :: x10 :: o :: σ) H R := h
theorem w_aug11 {x0 x1 x2 x3 x4 x5 x6 x7 x8 x9 x10 : Option V} {f : Int → Int → Int} {a : Int} {σ : L2.St} (h : te (x0 :: x1 :: x2 :: x3 :: x4 :: x5 :: x6 :: x7 :: x8 :: x9 :: x10 :: some (.int a) :: σ) H fun y H1 => ∃ b, y = .int b ∧ nx (x0 :: x1 :: x2 :: x3 :: x4 :: x5 :: x6 :: x7 :: x8 :: x9 :: x10 :: some (.int (f a b)) :: σ) H1) : tAug 11 te (ipI f) ⟨nx, rt, bk, ct⟩ (x0 :: x1 :: x2 :: x3 :: x4 :: x5 :: x6 :: x7 :: x8 :: x9 :: x10 :: some (.int a) :: σ) H := w_aug (i := 11) rfl h
theorem w_var12 {x0 x1 x2 x3 x4 x5 x6 x7 x8 x9 x10 x11 : Option V} {σ : L2.St} (q : Q v H) : tVar 12 (x0 :: x1 :: x2 :: x3 :: x4 :: x5 :: x6 :: x7 :: x8 :: x9 :: x10 :: x11 :: some v :: σ) H Q := ⟨v, rfl, q⟩
theorem w_asg12 {x0 x1 x2 x3 x4 x5 x6 x7 x8 x9 x10 x11 : Option V} {o : Option V} {σ : L2.St} (h : te (x0 :: x1 :: x2 :: x3 :: x4 :: x5 :: x6 :: x7 :: x8 :: x9 :: x10 :: x11 :: o :: σ) H fun x H1 => nx (x0 :: x1 :: x2 :: x3 :: x4 :: x5 :: x6 :: x7 :: x8 :: x9 :: x10 :: x11 :: some x :: σ) H1) : tAsg te (gName 12) ⟨nx, rt, bk, ct⟩ (x0 :: x1 :: x2 :: x3 :: x4 :: x5 :: x6 :: x7 :: x8 :: x9 :: x10 :: x11 :: o :: σ) H := h
theorem w_gn12 {x0 x1 x2 x3 x4 x5 x6 x7 x8 x9 x10 x11 : Option V} {o : Option V} {σ : L2.St} {R : L2.St → Hp → Prop} (h : R (x0 :: x1 :: x2 :: x3 :: x4 :: x5 :: x6 :: x7 :: x8 :: x9 :: x10 :: x11 :: some v :: σ) H) : gName 12 v (x0 :: x1 :: x2 :: x3 :: x4 :: x5 :: x6 :: x7 :: x8 :: x9 :: x10 :: x11 :: o :: σ) H R := h
theorem w_aug12 {x0 x1 x2 x3 x4 x5 x6 x7 x8 x9 x10 x11 : Option V} {f : Int → Int → Int} {a : Int} {σ : L2.St} (h : te (x0 :: x1 :: x2 :: x3 :: x4 :: x5 :: x6 :: x7 :: x8 :: x9 :: x10 :: x11 :: some (.int a) :: σ) H fun y H1 => ∃ b, y = .int b ∧ nx (x0 :: x1 :: x2 :: x3 :: x4 :: x5 :: x6 :: x7 :: x8 :: x9 :: x10 :: x11 :: some (.int (f a b)) :: σ) H1) : tAug 12 te (ipI f) ⟨nx, rt, bk, ct⟩ (x0 :: x1 :: x2 :: x3 :: x4 :: x5 :: x6 :: x7 :: x8 :: x9 :: x10 :: x11 :: some (.int a) :: σ) H := w_aug (i := 12) rfl h
theorem w_var13 {x0 x1 x2 x3 x4 x5 x6 x7 x8 x9 x10 x11 x12 : Option V} {σ : L2.St} (q : Q v H) : tVar 13 (x0 :: x1 :: x2 :: x3 :: x4 :: x5 :: x6 :: x7 :: x8 :: x9 :: x10 :: x11 :: x12 :: some v :: σ) H Q := ⟨v, rfl, q⟩
theorem w_asg13 {x0 x1 x2 x3 x4 x5 x6 x7 x8 x9 x10 x11 x12 : Option V} {o : Option V} {σ : L2.St} (h : te (x0 :: x1 :: x2 :: x3 :: x4 :: x5 :: x6 :: x7 :: x8 :: x9 :: x10 :: x11 :: x12 :: o :: σ) H fun x H1 => nx (x0 :: x1 :: x2 :: x3 :: x4 :: x5 :: x6 :: x7 :: x8 :: x9 :: x10 :: x11 :: x12 :: some x :: σ) H1) : tAsg te (gName 13) ⟨nx, rt, bk, ct⟩ (x0 :: x1 :: x2 :: x3 :: x4 :: x5 :: x6 :: x7 :: x8 :: x9 :: x10 :: x11 :: x12 :: o :: σ) H := h
theorem w_gn13 {x0 x1 x2 x3 x4 x5 x6 x7 x8 x9 x10 x11 x12 : Option V} {o : Option V} {σ : L2.St} {R : L2.St → Hp → Prop} (h : R (x0 :: x1 :: x2 :: x3 :: x4 :: x5 :: x6 :: x7 :: x8 :: x9 :: x10 :: x11 :: x12 :: some v :: σ) H) : gName 13 v (x0 :: x1 :: x2 :: x3 :: x4 :: x5 :: x6 :: x7 :: x8 :: x9 :: x10 :: x11 :: x12 :: o :: σ) H R := h
theorem w_aug13 {x0 x1 x2 x3 x4 x5 x6 x7 x8 x9 x10 x11 x12 : Option V} {f : Int → Int → Int} {a : Int} {σ : L2.St} (h : te (x0 :: x1 :: x2 :: x3 :: x4 :: x5 :: x6 :: x7 :: x8 :: x9 :: x10 :: x11 :: x12 :: some (.int a) :: σ) H fun y H1 => ∃ b, y = .int b ∧ nx (x0 :: x1 :: x2 :: x3 :: x4 :: x5 :: x6 :: x7 :: x8 :: x9 :: x10 :: x11 :: x12 :: some (.int (f a b)) :: σ) H1) : tAug 13 te (ipI f) ⟨nx, rt, bk, ct⟩ (x0 :: x1 :: x2 :: x3 :: x4 :: x5 :: x6 :: x7 :: x8 :: x9 :: x10 :: x11 :: x12 :: some (.int a) :: σ) H := w_aug (i := 13) rfl h
theorem w_var14 {x0 x1 x2 x3 x4 x5 x6 x7 x8 x9 x10 x11 x12 x13 : Option V} {σ : L2.St} (q : Q v H) : tVar 14 (x0 :: x1 :: x2 :: x3 :: x4 :: x5 :: x6 :: x7 :: x8 :: x9 :: x10 :: x11 :: x12 :: x13 :: some v :: σ) H Q := ⟨v, rfl, q⟩
theorem w_asg14 {x0 x1 x2 x3 x4 x5 x6 x7 x8 x9 x10 x11 x12 x13 : Option V} {o : Option V} {σ : L2.St} (h : te (x0 :: x1 :: x2 :: x3 :: x4 :: x5 :: x6 :: x7 :: x8 :: x9 :: x10 :: x11 :: x12 :: x13 :: o :: σ) H fun x H1 => nx (x0 :: x1 :: x2 :: x3 :: x4 :: x5 :: x6 :: x7 :: x8 :: x9 :: x10 :: x11 :: x12 :: x13 :: some x :: σ) H1) : tAsg te (gName 14) ⟨nx, rt, bk, ct⟩ (x0 :: x1 :: x2 :: x3 :: x4 :: x5 :: x6 :: x7 :: x8 :: x9 :: x10 :: x11 :: x12 :: x13 :: o :: σ) H := h
theorem w_gn14 {x0 x1 x2 x3 x4 x5 x6 x7 x8 x9 x10 x11 x12 x13 : Option V} {o : Option V} {σ : L2.St} {R : L2.St → Hp → Prop} (h : R (x0 :: x1 :: x2 :: x3 :: x4 :: x5 :: x6 :: x7 :: x8 :: x9 :: x10 :: x11 :: x12 :: x13 :: some v :: σ) H) : gName 14 v (x0 :: x1 :: x2 :: x3 :: x4 :: x5 :: x6 :: x7 :: x8 :: x9 :: x10 :: x11 :: x12 :: x13 :: o :: σ) H R := h
theorem w_aug14 {x0 x1 x2 x3 x4 x5 x6 x7 x8 x9 x10 x11 x12 x13 : Option V} {f : Int → Int → Int} {a : Int} {σ : L2.St} (h : te (x0 :: x1 :: x2 :: x3 :: x4 :: x5 :: x6 :: x7 :: x8 :: x9 :: x10 :: x11 :: x12 :: x13 :: some (.int a) :: σ) H fun y H1 => ∃ b, y = .int b ∧ nx (x0 :: x1 :: x2 :: x3 :: x4 :: x5 :: x6 :: x7 :: x8 :: x9 :: x10 :: x11 :: x12 :: x13 :: some (.int (f a b)) :: σ) H1) : tAug 14 te (ipI f) ⟨nx, rt, bk, ct⟩ (x0 :: x1 :: x2 :: x3 :: x4 :: x5 :: x6 :: x7 :: x8 :: x9 :: x10 :: x11 :: x12 :: x13 :: some (.int a) :: σ) H := w_aug (i := 14) rfl h
theorem w_var15 {x0 x1 x2 x3 x4 x5 x6 x7 x8 x9 x10 x11 x12 x13 x14 : Option V} {σ : L2.St} (q : Q v H) : tVar 15 (x0 :: x1 :: x2 :: x3 :: x4 :: x5 :: x6 :: x7 :: x8 :: x9 :: x10 :: x11 :: x12 :: x13 :: x14 :: some v :: σ) H Q := ⟨v, rfl, q⟩
theorem w_asg15 {x0 x1 x2 x3 x4 x5 x6 x7 x8 x9 x10 x11 x12 x13 x14 : Option V} {o : Option V} {σ : L2.St} (h : te (x0 :: x1 :: x2 :: x3 :: x4 :: x5 :: x6 :: x7 :: x8 :: x9 :: x10 :: x11 :: x12 :: x13 :: x14 :: o :: σ) H fun x H1 => nx (x0 :: x1 :: x2 :: x3 :: x4 :: x5 :: x6 :: x7 :: x8 :: x9 :: x10 :: x11 :: x12 :: x13 :: x14 :: some x :: σ) H1) : tAsg te (gName 15) ⟨nx, rt, bk, ct⟩ (x0 :: x1 :: x2 :: x3 :: x4 :: x5 :: x6 :: x7 :: x8 :: x9 :: x10 :: x11 :: x12 :: x13 :: x14 :: o :: σ) H := h
theorem w_gn15 {x0 x1 x2 x3 x4 x5 x6 x7 x8 x9 x10 x11 x12 x13 x14 : Option V} {o : Option V} {σ : L2.St} {R : L2.St → Hp → Prop} (h : R (x0 :: x1 :: x2 :: x3 :: x4 :: x5 :: x6 :: x7 :: x8 :: x9 :: x10 :: x11 :: x12 :: x13 :: x14 :: some v :: σ) H) : gName 15 v (x0 :: x1 :: x2 :: x3 :: x4 :: x5 :: x6 :: x7 :: x8 :: x9 :: x10 :: x11 :: x12 :: x13 :: x14 :: o :: σ) H R := h
theorem w_aug15 {x0 x1 x2 x3 x4 x5 x6 x7 x8 x9 x10 x11 x12 x13 x14 : Option V} {f : Int → Int → Int} {a : Int} {σ : L2.St} (h : te (x0 :: x1 :: x2 :: x3 :: x4 :: x5 :: x6 :: x7 :: x8 :: x9 :: x10 :: x11 :: x12 :: x13 :: x14 :: some (.int a) :: σ) H fun y H1 => ∃ b, y = .int b ∧ nx (x0 :: x1 :: x2 :: x3 :: x4 :: x5 :: x6 :: x7 :: x8 :: x9 :: x10 :: x11 :: x12 :: x13 :: x14 :: some (.int (f a b)) :: σ) H1) : tAug 15 te (ipI f) ⟨nx, rt, bk, ct⟩ (x0 :: x1 :: x2 :: x3 :: x4 :: x5 :: x6 :: x7 :: x8 :: x9 :: x10 :: x11 :: x12 :: x13 :: x14 :: some (.int a) :: σ) H := w_aug (i := 15) rfl h
theorem w_var16 {x0 x1 x2 x3 x4 x5 x6 x7 x8 x9 x10 x11 x12 x13 x14 x15 : Option V} {σ : L2.St} (q : Q v H) : tVar 16 (x0 :: x1 :: x2 :: x3 :: x4 :: x5 :: x6 :: x7 :: x8 :: x9 :: x10 :: x11 :: x12 :: x13 :: x14 :: x15 :: some v :: σ) H Q := ⟨v, rfl, q⟩
theorem w_asg16 {x0 x1 x2 x3 x4 x5 x6 x7 x8 x9 x10 x11 x12 x13 x14 x15 : Option V} {o : Option V} {σ : L2.St} (h : te (x0 :: x1 :: x2 :: x3 :: x4 :: x5 :: x6 :: x7 :: x8 :: x9 :: x10 :: x11 :: x12 :: x13 :: x14 :: x15 :: o :: σ) H fun x H1 => nx (x0 :: x1 :: x2 :: x3 :: x4 :: x5 :: x6 :: x7 :: x8 :: x9 :: x10 :: x11 :: x12 :: x13 :: x14 :: x15 :: some x :: σ) H1) : tAsg te (gName 16) ⟨nx, rt, bk, ct⟩ (x0 :: x1 :: x2 :: x3 :: x4 :: x5 :: x6 :: x7 :: x8 :: x9 :: x10 :: x11 :: x12 :: x13 :: x14 :: x15 :: o :: σ) H := h
theorem w_gn16 {x0 x1 x2 x3 x4 x5 x6 x7 x8 x9 x10 x11 x12 x13 x14 x15 : Option V} {o : Option V} {σ : L2.St} {R : L2.St → Hp → Prop} (h : R (x0 :: x1 :: x2 :: x3 :: x4 :: x5 :: x6 :: x7 :: x8 :: x9 :: x10 :: x11 :: x12 :: x13 :: x14 :: x15 :: some v :: σ) H) : gName 16 v (x0 :: x1 :: x2 :: x3 :: x4 :: x5 :: x6 :: x7 :: x8 :: x9 :: x10 :: x11 :: x12 :: x13 :: x14 :: x15 :: o :: σ) H R := h
theorem w_aug16 {x0 x1 x2 x3 x4 x5 x6 x7 x8 x9 x10 x11 x12 x13 x14 x15 : Option V} {f : Int → Int → Int} {a : Int} {σ : L2.St} (h : te (x0 :: x1 :: x2 :: x3 :: x4 :: x5 :: x6 :: x7 :: x8 :: x9 :: x10 :: x11 :: x12 :: x13 :: x14 :: x15 :: some (.int a) :: σ) H fun y H1 => ∃ b, y = .int b ∧ nx (x0 :: x1 :: x2 :: x3 :: x4 :: x5 :: x6 :: x7 :: x8 :: x9 :: x10 :: x11 :: x12 :: x13 :: x14 :: x15 :: some (.int (f a b)) :: σ) H1) : tAug 16 te (ipI f) ⟨nx, rt, bk, ct⟩ (x0 :: x1 :: x2 :: x3 :: x4 :: x5 :: x6 :: x7 :: x8 :: x9 :: x10 :: x11 :: x12 :: x13 :: x14 :: x15 :: some (.int a) :: σ) H := w_aug (i := 16) rfl h
theorem w_var17 {x0 x1 x2 x3 x4 x5 x6 x7 x8 x9 x10 x11 x12 x13 x14 x15 x16 : Option V} {σ : L2.St} (q : Q v H) : tVar 17 (x0 :: x1 :: x2 :: x3 :: x4 :: x5 :: x6 :: x7 :: x8 :: x9 :: x10 :: x11 :: x12 :: x13 :: x14 :: x15 :: x16 :: some v :: σ) H Q := ⟨v, rfl, q⟩
theorem w_asg17 {x0 x1 x2 x3 x4 x5 x6 x7 x8 x9 x10 x11 x12 x13 x14 x15 x16 : Option V} {o : Option V} {σ : L2.St} (h : te (x0 :: x1 :: x2 :: x3 :: x4 :: x5 :: x6 :: x7 :: x8 :: x9 :: x10 :: x11 :: x12 :: x13 :: x14 :: x15 :: x16 :: o :: σ) H fun x H1 => nx (x0 :: x1 :: x2 :: x3 :: x4 :: x5 :: x6 :: x7 :: x8 :: x9 :: x10 :: x11 :: x12 :: x13 :: x14 :: x15 :: x16 :: some x :: σ) H1) : tAsg te (gName 17) ⟨nx, rt, bk, ct⟩ (x0 :: x1 :: x2 :: x3 :: x4 :: x5 :: x6 :: x7 :: x8 :: x9 :: x10 :: x11 :: x12 :: x13 :: x14 :: x15 :: x16 :: o :: σ) H := h
theorem w_gn17 {x0 x1 x2 x3 x4 x5 x6 x7 x8 x9 x10 x11 x12 x13 x14 x15 x16 : Option V} {o : Option V} {σ : L2.St} {R : L2.St → Hp → Prop} (h : R (x0 :: x1 :: x2 :: x3 :: x4 :: x5 :: x6 :: x7 :: x8 :: x9 :: x10 :: x11 :: x12 :: x13 :: x14 :: x15 :: x16 :: some v :: σ) H) : gName 17 v (x0 :: x1 :: x2 :: x3 :: x4 :: x5 :: x6 :: x7 :: x8 :: x9 :: x10 :: x11 :: x12 :: x13 :: x14 :: x15 :: x16 :: o :: σ) H R := h
theorem w_aug17 {x0 x1 x2 x3 x4 x5 x6 x7 x8 x9 x10 x11 x12 x13 x14 x15 x16 : Option V} {f : Int → Int → Int} {a : Int} {σ : L2.St} (h : te (x0 :: x1 :: x2 :: x3 :: x4 :: x5 :: x6 :: x7 :: x8 :: x9 :: x10 :: x11 :: x12 :: x13 :: x14 :: x15 :: x16 :: some (.int a) :: σ) H fun y H1 => ∃ b, y = .int b ∧ nx (x0 :: x1 :: x2 :: x3 :: x4 :: x5 :: x6 :: x7 :: x8 :: x9 :: x10 :: x11 :: x12 :: x13 :: x14 :: x15 :: x16 :: some (.int (f a b)) :: σ) H1) : tAug 17 te (ipI f) ⟨nx, rt, bk, ct⟩ (x0 :: x1 :: x2 :: x3 :: x4 :: x5 :: x6 :: x7 :: x8 :: x9 :: x10 :: x11 :: x12 :: x13 :: x14 :: x15 :: x16 :: some (.int a) :: σ) H := w_aug (i := 17) rfl h
theorem w_var18 {x0 x1 x2 x3 x4 x5 x6 x7 x8 x9 x10 x11 x12 x13 x14 x15 x16 x17 : Option V} {σ : L2.St} (q : Q v H) : tVar 18 (x0 :: x1 :: x2 :: x3 :: x4 :: x5 :: x6 :: x7 :: x8 :: x9 :: x10 :: x11 :: x12 :: x13 :: x14 :: x15 :: x16 :: x17 :: some v :: σ) H Q := ⟨v, rfl, q⟩
theorem w_asg18 {x0 x1 x2 x3 x4 x5 x6 x7 x8 x9 x10 x11 x12 x13 x14 x15 x16 x17 : Option V} {o : Option V} {σ : L2.St} (h : te (x0 :: x1 :: x2 :: x3 :: x4 :: x5 :: x6 :: x7 :: x8 :: x9 :: x10 :: x11 :: x12 :: x13 :: x14 :: x15 :: x16 :: x17 :: o :: σ) H fun x H1 => nx (x0 :: x1 :: x2 :: x3 :: x4 :: x5 :: x6 :: x7 :: x8 :: x9 :: x10 :: x11 :: x12 :: x13 :: x14 :: x15 :: x16 :: x17 :: some x :: σ) H1) : tAsg te (gName 18) ⟨nx, rt, bk, ct⟩ (x0 :: x1 :: x2 :: x3 :: x4 :: x5 :: x6 :: x7 :: x8 :: x9 :: x10 :: x11 :: x12 :: x13 :: x14 :: x15 :: x16 :: x17 :: o :: σ) H := h
theorem w_gn18 {x0 x1 x2 x3 x4 x5 x6 x7 x8 x9 x10 x11 x12 x13 x14 x15 x16 x17 : Option V} {o : Option V} {σ : L2.St} {R : L2.St → Hp → Prop} (h : R (x0 :: x1 :: x2 :: x3 :: x4 :: x5 :: x6 :: x7 :: x8 :: x9 :: x10 :: x11 :: x12 :: x13 :: x14 :: x15 :: x16 :: x17 :: some v :: σ) H) : gName 18 v (x0 :: x1 :: x2 :: x3 :: x4 :: x5 :: x6 :: x7 :: x8 :: x9 :: x10 :: x11 :: x12 :: x13 :: x14 :: x15 :: x16 :: x17 :: o :: σ) H R := h
theorem w_aug18 {x0 x1 x2 x3 x4 x5 x6 x7 x8 x9 x10 x11 x12 x13 x14 x15 x16 x17 : Option V} {f : Int → Int → Int} {a : Int} {σ : L2.St} (h : te (x0 :: x1 :: x2 :: x3 :: x4 :: x5 :: x6 :: x7 :: x8 :: x9 :: x10 :: x11 :: x12 :: x13 :: x14 :: x15 :: x16 :: x17 :: some (.int a) :: σ) H fun y H1 => ∃ b, y = .int b ∧ nx (x0 :: x1 :: x2 :: x3 :: x4 :: x5 :: x6 :: x7 :: x8 :: x9 :: x10 :: x11 :: x12 :: x13 :: x14 :: x15 :: x16 :: x17 :: some (.int (f a b)) :: σ) H1) : tAug 18 te (ipI f) ⟨nx, rt, bk, ct⟩ (x0 :: x1 :: x2 :: x3 :: x4 :: x5 :: x6 :: x7 :: x8 :: x9 :: x10 :: x11 :: x12 :: x13 :: x14 :: x15 :: x16 :: x17 :: some (.int a) :: σ) H := w_aug (i := 18) rfl h
theorem w_var19 {x0 x1 x2 x3 x4 x5 x6 x7 x8 x9 x10 x11 x12 x13 x14 x15 x16 x17 x18 : Option V} {σ : L2.St} (q : Q v H) : tVar 19 (x0 :: x1 :: x2 :: x3 :: x4 :: x5 :: x6 :: x7 :: x8 :: x9 :: x10 :: x11 :: x12 :: x13 :: x14 :: x15 :: x16 :: x17 :: x18 :: some v :: σ) H Q := ⟨v, rfl, q⟩
theorem w_asg19 {x0 x1 x2 x3 x4 x5 x6 x7 x8 x9 x10 x11 x12 x13 x14 x15 x16 x17 x18 : Option V} {o : Option V} {σ : L2.St} (h : te (x0 :: x1 :: x2 :: x3 :: x4 :: x5 :: x6 :: x7 :: x8 :: x9 :: x10 :: x11 :: x12 :: x13 :: x14 :: x15 :: x16 :: x17 :: x18 :: o :: σ) H fun x H1 => nx (x0 :: x1 :: x2 :: x3 :: x4 :: x5 :: x6 :: x7 :: x8 :: x9 :: x10 :: x11 :: x12 :: x13 :: x14 :: x15 :: x16 :: x17 :: x18 :: some x :: σ) H1) : tAsg te (gName 19) ⟨nx, rt, bk, ct⟩ (x0 :: x1 :: x2 :: x3 :: x4 :: x5 :: x6 :: x7 :: x8 :: x9 :: x10 :: x11 :: x12 :: x13 :: x14 :: x15 :: x16 :: x17 :: x18 :: o :: σ) H := h
theorem w_gn19 {x0 x1 x2 x3 x4 x5 x6 x7 x8 x9 x10 x11 x12 x13 x14 x15 x16 x17 x18 : Option V} {o : Option V} {σ : L2.St} {R : L2.St → Hp → Prop} (h : R (x0 :: x1 :: x2 :: x3 :: x4 :: x5 :: x6 :: x7 :: x8 :: x9 :: x10 :: x11 :: x12 :: x13 :: x14 :: x15 :: x16 :: x17 :: x18 :: some v :: σ) H) : gName 19 v (x0 :: x1 :: x2 :: x3 :: x4 :: x5 :: x6 :: x7 :: x8 :: x9 :: x10 :: x11 :: x12 :: x13 :: x14 :: x15 :: x16 :: x17 :: x18 :: o :: σ) H R := h
theorem w_aug19 {x0 x1 x2 x3 x4 x5 x6 x7 x8 x9 x10 x11 x12 x13 x14 x15 x16 x17 x18 : Option V} {f : Int → Int → Int} {a : Int} {σ : L2.St} (h : te (x0 :: x1 :: x2 :: x3 :: x4 :: x5 :: x6 :: x7 :: x8 :: x9 :: x10 :: x11 :: x12 :: x13 :: x14 :: x15 :: x16 :: x17 :: x18 :: some (.int a) :: σ) H fun y H1 => ∃ b, y = .int b ∧ nx (x0 :: x1 :: x2 :: x3 :: x4 :: x5 :: x6 :: x7 :: x8 :: x9 :: x10 :: x11 :: x12 :: x13 :: x14 :: x15 :: x16 :: x17 :: x18 :: some (.int (f a b)) :: σ) H1) : tAug 19 te (ipI f) ⟨nx, rt, bk, ct⟩ (x0 :: x1 :: x2 :: x3 :: x4 :: x5 :: x6 :: x7 :: x8 :: x9 :: x10 :: x11 :: x12 :: x13 :: x14 :: x15 :: x16 :: x17 :: x18 :: some (.int a) :: σ) H := w_aug (i := 19) rfl h
theorem cut {P : L2.St → Hp → Prop} {σ0 : L2.St} (σ : L2.St) (e : σ0 = σ) (h : P σ H) : P σ0 H := by
  rw [e]
  exact h
end
section
variable {nx bk ct : L2.St → Hp → Prop} {rt : VK} {t u tb : TS} {σ : L2.St} {H F0 H0 F : Hp} {L : List (Addr × HO)} {C : List Ck} {te ta tc : TE} {tA : TA} {Q : VK} {v x y : V} {g : TG} {K : PySem.W.Frag} {a : Addr} {xs : List V} {l m : List Nat} {i : Int} {c : Nat}
theorem isVar {i : Nat} (h : tVar i σ H Q) : tVar i σ H Q := h
theorem isAsg {i : Nat} {D : Ends} (h : tAsg te (gName i) D σ H) : tAsg te (gName i) D σ H := h
theorem isGn {i : Nat} {R : L2.St → Hp → Prop} (h : gName i v σ H R) : gName i v σ H R := h
theorem isAug {i : Nat} {f : Int → Int → Int} {D : Ends} (h : tAug i te (ipI f) D σ H) : tAug i te (ipI f) D σ H := h
theorem w_abs (q : Q (.int (i.natAbs : Nat)) H) : rAbs [.int i] H Q := ⟨i, rfl, q⟩
theorem w_toint (q : Q (.int i) H) : rInt [.int i] H Q := ⟨i, rfl, q⟩
theorem w_tointB {b : Bool} (q : Q (.int (if b then 1 else 0)) H) : rIntB [.bl b] H Q := ⟨b, rfl, q⟩
theorem w_lenS (q : Q (.int (l.length : Nat)) H) (hz : l.length ≤ sizeLine) : rLenS [vS l] H Q := ⟨l, rfl, hz, q⟩
theorem w_addS (q : Q (vS (l ++ m)) H) (hz : l.length + m.length ≤ sizeLine) : rAddS (vS l) (vS m) H Q := ⟨l, m, rfl, rfl, hz, q⟩
theorem w_ixS (q : Q (vS [c]) H) (ha : atI l i = some c) (hz : l.length ≤ sizeLine) : rIxSg (vS l) (.int i) H Q := ⟨l, i, c, rfl, rfl, hz, ha, q⟩
theorem w_mulS (q : Q (vS (List.replicate i.toNat l).flatten) H) (h : 0 ≤ i ∧ i < 2 ^ 30) (hz : l.length * i.toNat ≤ sizeLine) : rMulS (vS l) (.int i) H Q := ⟨l, i, rfl, rfl, h.1, h.2, hz, q⟩
theorem w_slS {lo hi : Option Int} (q : Q (vS (cutN l lo hi)) H) (hz : l.length ≤ sizeLine) : rSlSg (vS l) lo hi H Q := ⟨l, rfl, hz, q⟩
theorem w_sl {r : V → Option Int → Option Int → Hp → VK → Prop} {tl th : TO} (h : te σ H fun x H1 => tl σ H1 fun lo H2 => th σ H2 fun hi H3 => r x lo hi H3 Q) : tSl r te tl th σ H Q := h
theorem w_noP {R : Option Int → Hp → Prop} (h : R none H) : tNoPart σ H R := h
theorem w_part {R : Option Int → Hp → Prop} (h : te σ H fun x H1 => ∃ i, x = .int i ∧ R (some i) H1) : tPart te σ H R := h
theorem w_ixL (q : Q v H) (hs : SqL K H a xs) (ha : atI xs i = some v) : rIxL K (.ref a) (.int i) H Q := ⟨a, xs, i, v, rfl, rfl, hs, ha, q⟩
theorem w_ixT (q : Q v H) (hs : SqT K H a xs) (ha : atI xs i = some v) : rIxT K (.ref a) (.int i) H Q := ⟨a, xs, i, v, rfl, rfl, hs, ha, q⟩
theorem w_lenL (q : Q (.int (xs.length : Nat)) H) (hs : SqL K H a xs) : rLenQ K [.ref a] H Q := ⟨a, xs, rfl, .inl hs, q⟩
theorem w_lenT (q : Q (.int (xs.length : Nat)) H) (hs : SqT K H a xs) : rLenQ K [.ref a] H Q := ⟨a, xs, rfl, .inr hs, q⟩
def NewL (xs : List V) (H : Hp) (Q : VK) : Prop := xs.length ≤ sizeLine ∧ ∀ p, H p = none → Q (.ref p) (upd H p (.lst xs))
def NewT (xs : List V) (H : Hp) (Q : VK) : Prop := xs.length ≤ sizeLine ∧ ∀ p, H p = none → Q (.ref p) (upd H p (.tup xs))
theorem w_lst (h : tA σ H fun xs H1 => NewL xs H1 Q) : tLst tA σ H Q := h
theorem w_tup (h : tA σ H fun xs H1 => NewT xs H1 Q) : tTup tA σ H Q := h
theorem w_newL (O : Own F0 H0 F H L C) (k : ∀ p H', Own F0 H0 F H' ((p, .lst xs) :: L) C → Q (.ref p) H') (hz : xs.length ≤ sizeLine) : NewL xs H Q := ⟨hz, fun p np => k p _ (O.alloc np _)⟩
theorem w_newT (O : Own F0 H0 F H L C) (k : ∀ p F' H', Own F0 H0 F' H' L (cO p (.tup xs) :: C) → Q (.ref p) H') (hz : xs.length ≤ sizeLine) : NewT xs H Q := ⟨hz, fun p np => k p _ _ (O.ice np _)⟩
theorem w_bm {T : String} {r : V → List V → Hp → VK → Prop} {to : TE} (h : to σ H fun x H1 => tyV K T x H1 ∧ tA σ H1 fun vs H2 => r x vs H2 Q) : tBM K T r to tA σ H Q := h
theorem w_bm0 {T : String} {r : V → List V → Hp → VK → Prop} {to : TE} (h : to σ H fun x H1 => tyV K T x H1 ∧ r x [] H1 Q) : tBM0 K T r to σ H Q := h
theorem w_tyL {P : Prop} (h : P) (hs : SqL K H a xs) : tyV K "list" (.ref a) H ∧ P := ⟨.inl ⟨rfl, _, hs⟩, h⟩
theorem w_app {j : Nat} (O : Own F0 H0 F H L C) (hi : L[j]? = some (a, .lst xs)) (k : ∀ H', Own F0 H0 F H' (L.set j (a, .lst (xs ++ [v]))) C → Q .non H') (hz : xs.length < sizeLine) : rAppend (.ref a) [v] H Q :=
  ⟨a, xs, v, rfl, rfl, O.at_ j hi, hz, k _ (O.set j hi _)⟩
theorem w_app0 (O : Own F0 H0 F H ((a, .lst xs) :: L) C) (k : ∀ H', Own F0 H0 F H' ((a, .lst (xs ++ [v])) :: L) C → Q .non H') (hz : xs.length < sizeLine) : rAppend (.ref a) [v] H Q := w_app (j := 0) O rfl k hz
theorem w_app1 {q : Addr × HO} (O : Own F0 H0 F H (q :: (a, .lst xs) :: L) C) (k : ∀ H', Own F0 H0 F H' (q :: (a, .lst (xs ++ [v])) :: L) C → Q .non H') (hz : xs.length < sizeLine) : rAppend (.ref a) [v] H Q := w_app (j := 1) O rfl k hz
theorem w_app2 {q q' : Addr × HO} (O : Own F0 H0 F H (q :: q' :: (a, .lst xs) :: L) C) (k : ∀ H', Own F0 H0 F H' (q :: q' :: (a, .lst (xs ++ [v])) :: L) C → Q .non H') (hz : xs.length < sizeLine) : rAppend (.ref a) [v] H Q := w_app (j := 2) O rfl k hz
/-! loops -/
def LoopEnd (J : It) (g : TG) (tb : TS) (D : Ends) (σ : L2.St) (H : Hp) : Prop := ∃ W : Nat → Nat → L2.St → Hp → Prop, (∃ m, W 0 m σ H) ∧ ∀ i m σ H, W i m σ H →
  (J.stop i H ∧ D.nx σ H) ∨ (J.go i H ∧ ∃ N : L2.St → Hp → Prop, (∀ σ' H', N σ' H' → ∃ m', m' < m ∧ W (i + 1) m' σ' H') ∧ ∀ x H', J.yld i H x H' → g x σ H' fun σ2 H2 => tb { D with nx := N, ct := N, bk := D.nx } σ2 H2)
theorem w_for {wi : TI} (h : wi σ H fun J H1 => LoopEnd J g tb ⟨nx, rt, bk, ct⟩ σ H1) : tFor wi g tb ⟨nx, rt, bk, ct⟩ σ H := h
def Rg1 (vs : List V) (H : Hp) (R : It → Hp → Prop) : Prop := ∃ j : Int, vs = [.int j] ∧ -(2 ^ 62) ≤ j ∧ j < 2 ^ 62 ∧ R (Itr 0 j.toNat) H
theorem w_iRng1 {R : It → Hp → Prop} (h : tA σ H fun vs H1 => Rg1 vs H1 R) : iRng1 tA σ H R := h
theorem w_rg1 {n : Int} (hn : -(2 ^ 62) ≤ n ∧ n < 2 ^ 62) (Pv : Nat → L2.St → Hp → Prop) (h0 : Pv 0 σ H)
    (hs : ∀ (i : Nat) σ' H', (i : Int) < n → Pv i σ' H' → g (.int (i : Nat)) σ' H' fun σ2 H2 => tb ⟨Pv (i + 1), rt, nx, Pv (i + 1)⟩ σ2 H2) (hd : ∀ σ' H', Pv n.toNat σ' H' → nx σ' H') :
    Rg1 [.int n] H fun J H1 => LoopEnd J g tb ⟨nx, rt, bk, ct⟩ σ H1 := by
  refine ⟨n, rfl, hn.1, hn.2, for_range (lo := 0) (n := n.toNat) (D := ⟨nx, rt, bk, ct⟩) Pv h0 (fun i σ' H' hi p => ?_) hd⟩
  have q := hs i σ' H' (by omega) p
  rw [show (0 : Int) + (i : Int) = (i : Int) from Int.zero_add _]
  exact q
def Rg2 (vs : List V) (H : Hp) (R : It → Hp → Prop) : Prop := ∃ i j : Int, vs = [.int i, .int j] ∧ (-(2 ^ 62) ≤ i ∧ i < 2 ^ 62 ∧ -(2 ^ 62) ≤ j ∧ j < 2 ^ 62) ∧ R (Itr i (j - i).toNat) H
theorem w_iRng2 {R : It → Hp → Prop} (h : tA σ H fun vs H1 => Rg2 vs H1 R) : iRng2 tA σ H R := h
theorem w_rg2 {b n : Int} (hn : -(2 ^ 62) ≤ b ∧ b < 2 ^ 62 ∧ -(2 ^ 62) ≤ n ∧ n < 2 ^ 62) (Pv : Nat → L2.St → Hp → Prop) (h0 : Pv 0 σ H)
    (hs : ∀ (i : Nat) σ' H', b + (i : Int) < n → Pv i σ' H' → g (.int (b + (i : Nat))) σ' H' fun σ2 H2 => tb ⟨Pv (i + 1), rt, nx, Pv (i + 1)⟩ σ2 H2) (hd : ∀ σ' H', Pv (n - b).toNat σ' H' → nx σ' H') :
    Rg2 [.int b, .int n] H fun J H1 => LoopEnd J g tb ⟨nx, rt, bk, ct⟩ σ H1 :=
  ⟨b, n, rfl, hn, for_range (lo := b) (n := (n - b).toNat) (D := ⟨nx, rt, bk, ct⟩) Pv h0 (fun i σ' H' hi p => hs i σ' H' (by omega) p) hd⟩
def Rg3 (vs : List V) (H : Hp) (R : It → Hp → Prop) : Prop := ∃ (i j c : Int) (n : Nat), vs = [.int i, .int j, .int c] ∧ RgC i j c n ∧ R (Itc i c n) H
theorem w_iRng3 {R : It → Hp → Prop} (h : tA σ H fun vs H1 => Rg3 vs H1 R) : iRng3 tA σ H R := h
theorem w_rg3 {b e c : Int} {n : Nat} (hn : RgC b e c n) (Pv : Nat → L2.St → Hp → Prop) (h0 : Pv 0 σ H)
    (hs : ∀ (i : Nat) σ' H', i < n → Pv i σ' H' → g (.int (b + (i : Nat) * c)) σ' H' fun σ2 H2 => tb ⟨Pv (i + 1), rt, nx, Pv (i + 1)⟩ σ2 H2) (hd : ∀ σ' H', Pv n σ' H' → nx σ' H') :
    Rg3 [.int b, .int e, .int c] H fun J H1 => LoopEnd J g tb ⟨nx, rt, bk, ct⟩ σ H1 :=
  ⟨b, e, c, n, rfl, hn, for_rangeC (lo := b) (c := c) (n := n) (D := ⟨nx, rt, bk, ct⟩) Pv h0 (fun i σ' H' hi p => hs i σ' H' hi p) hd⟩
def FoL (K : PySem.W.Frag) (x : V) (H : Hp) (R : It → Hp → Prop) : Prop := ∃ a, x = .ref a ∧ (∃ xs, SqL K H a xs) ∧ R (Itl K a) H
theorem w_iList {R : It → Hp → Prop} (h : te σ H fun x H1 => FoL K x H1 R) : iList K te σ H R := h
theorem w_foL (Pv : Nat → L2.St → Hp → Prop) (hx : SqL K H a xs) (h0 : Pv 0 σ H) (hl : ∀ i σ' H', i ≤ xs.length → Pv i σ' H' → SqL K H' a xs)
    (hs : ∀ (i : Nat) x σ' H', xs[i]? = some x → Pv i σ' H' → g x σ' H' fun σ2 H2 => tb ⟨Pv (i + 1), rt, nx, Pv (i + 1)⟩ σ2 H2) (hd : ∀ σ' H', Pv xs.length σ' H' → nx σ' H') :
    FoL K (.ref a) H fun J H1 => LoopEnd J g tb ⟨nx, rt, bk, ct⟩ σ H1 :=
  ⟨a, rfl, ⟨xs, hx⟩, for_list (D := ⟨nx, rt, bk, ct⟩) Pv h0 hl (fun i x σ' H' hi p => hs i x σ' H' hi p) hd⟩
def FoT (K : PySem.W.Frag) (x : V) (H : Hp) (R : It → Hp → Prop) : Prop := ∃ a, x = .ref a ∧ (∃ xs, SqT K H a xs) ∧ R (Itt K a) H
theorem w_iTup {R : It → Hp → Prop} (h : te σ H fun x H1 => FoT K x H1 R) : iTup K te σ H R := h
theorem w_foT (Pv : Nat → L2.St → Hp → Prop) (hx : SqT K H a xs) (h0 : Pv 0 σ H) (hl : ∀ i σ' H', i ≤ xs.length → Pv i σ' H' → SqT K H' a xs)
    (hs : ∀ (i : Nat) x σ' H', xs[i]? = some x → Pv i σ' H' → g x σ' H' fun σ2 H2 => tb ⟨Pv (i + 1), rt, nx, Pv (i + 1)⟩ σ2 H2) (hd : ∀ σ' H', Pv xs.length σ' H' → nx σ' H') :
    FoT K (.ref a) H fun J H1 => LoopEnd J g tb ⟨nx, rt, bk, ct⟩ σ H1 :=
  ⟨a, rfl, ⟨xs, hx⟩, for_tup (D := ⟨nx, rt, bk, ct⟩) Pv h0 hl (fun i x σ' H' hi p => hs i x σ' H' hi p) hd⟩
def FoS (x : V) (H : Hp) (R : It → Hp → Prop) : Prop := ∃ z, x = .str z ∧ R (Its z) H
theorem w_iStr {R : It → Hp → Prop} (h : te σ H fun x H1 => FoS x H1 R) : iStr te σ H R := h
theorem w_foS (Pv : Nat → L2.St → Hp → Prop) (h0 : Pv 0 σ H)
    (hs : ∀ (i : Nat) (c : Nat) σ' H', l[i]? = some c → Pv i σ' H' → g (vS [c]) σ' H' fun σ2 H2 => tb ⟨Pv (i + 1), rt, nx, Pv (i + 1)⟩ σ2 H2) (hd : ∀ σ' H', Pv l.length σ' H' → nx σ' H') :
    FoS (vS l) H fun J H1 => LoopEnd J g tb ⟨nx, rt, bk, ct⟩ σ H1 := by
  refine ⟨S l, rfl, fun i k σ' H' => k = l.length - i ∧ i ≤ l.length ∧ Pv i σ' H', ⟨l.length, by simp, Nat.zero_le _, h0⟩, ?_⟩
  rintro i k σ' H' ⟨rfl, hi, p⟩
  have hsz : (S l).cps.size = l.length := by simp [S]
  by_cases hlt : i < l.length
  · refine .inr ⟨by show i < (S l).cps.size; rw [hsz]; exact hlt, Pv (i + 1), fun σ2 H2 p' => ⟨l.length - (i + 1), by omega, rfl, hlt, p'⟩, ?_⟩
    rintro x H2 ⟨rfl, c, hc, rfl⟩
    refine hs i c σ' _ ?_ p
    simpa [S] using hc
  · have e : i = l.length := by omega
    subst e
    exact .inl ⟨by show (S l).cps.size ≤ l.length; rw [hsz]; exact Nat.le_refl _, hd _ _ p⟩
def FoR (K : PySem.W.Frag) (vs : List V) (H : Hp) (R : It → Hp → Prop) : Prop := ∃ (a : Addr) (xs : List V), vs = [.ref a] ∧ SqL K H a xs ∧ R (Itv K a xs.length) H
theorem w_iRev {R : It → Hp → Prop} (h : tA σ H fun vs H1 => FoR K vs H1 R) : iRev K tA σ H R := h
/-- i: the turns done; the item is the one at length - 1 - i -/
theorem w_foR (Pv : Nat → L2.St → Hp → Prop) (hx : SqL K H a xs) (h0 : Pv 0 σ H) (hl : ∀ i σ' H', Pv i σ' H' → SqL K H' a xs)
    (hs : ∀ (i : Nat) x σ' H', i < xs.length → xs[xs.length - 1 - i]? = some x → Pv i σ' H' → g x σ' H' fun σ2 H2 => tb ⟨Pv (i + 1), rt, nx, Pv (i + 1)⟩ σ2 H2) (hd : ∀ σ' H', Pv xs.length σ' H' → nx σ' H') :
    FoR K [.ref a] H fun J H1 => LoopEnd J g tb ⟨nx, rt, bk, ct⟩ σ H1 := by
  refine ⟨a, xs, rfl, hx, fun i k σ' H' => k = xs.length - i ∧ i ≤ xs.length ∧ Pv i σ' H', ⟨xs.length, by simp, Nat.zero_le _, h0⟩, ?_⟩
  rintro i k σ' H' ⟨rfl, hi, p⟩
  by_cases hlt : i < xs.length
  · have hs1 : SqL K H' a xs := hl i σ' H' p
    have hg : xs[xs.length - 1 - i]? = some (xs[xs.length - 1 - i]'(by omega)) := List.getElem?_eq_getElem (by omega)
    refine .inr ⟨⟨hlt, xs, _, hs1, hg⟩, Pv (i + 1), fun σ2 H2 p' => ⟨xs.length - (i + 1), by omega, rfl, hlt, p'⟩, ?_⟩
    rintro x H2 ⟨rfl, hx2⟩
    exact hs i x σ' _ hlt (hx2 xs hs1) p
  · have e : i = xs.length := by omega
    subst e
    exact .inl ⟨Nat.le_refl _, hd _ _ p⟩
def FoE (K : PySem.W.Frag) (vs : List V) (H : Hp) (R : It → Hp → Prop) : Prop := ∃ (a : Addr) (xs : List V), vs = [.ref a] ∧ SqL K H a xs ∧ R (Ite K a) H
theorem w_iEnum {R : It → Hp → Prop} (h : tA σ H fun vs H1 => FoE K vs H1 R) : iEnum K tA σ H R := h
theorem w_foE (Pv : Nat → L2.St → Hp → Prop) (hx : SqL K H a xs) (h0 : Pv 0 σ H) (hl : ∀ i σ' H', Pv i σ' H' → SqL K H' a xs)
    (hs : ∀ (i : Nat) x σ' H' T, xs[i]? = some x → Pv i σ' H' → H' T = none → g (.ref T) σ' (upd H' T (.tup [.int (i : Nat), x])) fun σ2 H2 => tb ⟨Pv (i + 1), rt, nx, Pv (i + 1)⟩ σ2 H2) (hd : ∀ σ' H', Pv xs.length σ' H' → nx σ' H') :
    FoE K [.ref a] H fun J H1 => LoopEnd J g tb ⟨nx, rt, bk, ct⟩ σ H1 := by
  refine ⟨a, xs, rfl, hx, fun i k σ' H' => k = xs.length - i ∧ i ≤ xs.length ∧ Pv i σ' H', ⟨xs.length, by simp, Nat.zero_le _, h0⟩, ?_⟩
  rintro i k σ' H' ⟨rfl, hi, p⟩
  have hs1 : SqL K H' a xs := hl i σ' H' p
  by_cases hlt : i < xs.length
  · refine .inr ⟨⟨xs, _, hs1, List.getElem?_eq_getElem hlt⟩, Pv (i + 1), fun σ2 H2 p' => ⟨xs.length - (i + 1), by omega, rfl, hlt, p'⟩, ?_⟩
    rintro v H2 ⟨T, x, rfl, nT, rfl, hx2⟩
    exact hs i x σ' H' T (hx2 xs hs1) p nT
  · have e : i = xs.length := by omega
    subst e
    exact .inl ⟨⟨xs, hs1, Nat.le_refl _⟩, hd _ _ p⟩
/-- while: Pv with a number that falls -/
theorem w_while (Pv : Nat → L2.St → Hp → Prop) (m0 : Nat) (h0 : Pv m0 σ H) {c : TT}
    (hs : ∀ m σ' H', Pv m σ' H' → c σ' H' fun b H1 => if b = true then tb ⟨fun σ2 H2 => ∃ m', m' < m ∧ Pv m' σ2 H2, rt, nx, fun σ2 H2 => ∃ m', m' < m ∧ Pv m' σ2 H2⟩ σ' H1 else nx σ' H1)
    (mono : ∀ σ H (Q Q' : Bool → Hp → Prop), (∀ b H1, Q b H1 → Q' b H1) → c σ H Q → c σ H Q') : tWhile c tb ⟨nx, rt, bk, ct⟩ σ H := by
  refine ⟨Pv, ⟨m0, h0⟩, fun m σ' H' p => mono σ' H' _ _ (fun b H1 q => ?_) (hs m σ' H' p)⟩
  cases b with
  | true => exact ⟨_, fun _ _ z => z, q⟩
  | false => exact q
/-! comprehensions -/
def LcEnd (J : It) (g : TG) (tt : TT) (te : TE) (vs : List Nat) (σ : L2.St) (H1 : Hp) (Q : VK) : Prop := ∀ D, H1 D = none → ∃ W : Nat → Nat → Hp → Prop, (∃ m, W 0 m (upd H1 D (.lst []))) ∧ ∀ i m H, W i m H →
  (J.stop i H ∧ Q (.ref D) H) ∨ (J.go i H ∧ ∃ Nx : Hp → Prop, (∀ H', Nx H' → ∃ m', m' < m ∧ W (i + 1) m' H') ∧ ∀ x H', J.yld i H x H' → g x (wipe σ vs) H' fun σ2 H2 => wipe σ2 vs = wipe σ vs ∧ tt σ2 H2 fun b H3 =>
    if b = true then te σ2 H3 fun y H4 => ∃ acc, H4 D = some (.lst acc) ∧ acc.length < sizeLine ∧ Nx (upd H4 D (.lst (acc ++ [y]))) else Nx H3)
theorem w_lc {wi : TI} {tt : TT} {vs : List Nat} (h : wi σ H fun J H1 => LcEnd J g tt te vs σ H1 Q) : tLc wi g tt te vs σ H Q := h
/-- the item is put behind the list at D -/
def Put (D : Addr) (N : Hp → Prop) (y : V) (H4 : Hp) : Prop := ∃ acc, H4 D = some (.lst acc) ∧ acc.length < sizeLine ∧ N (upd H4 D (.lst (acc ++ [y])))
/-- what holds between two turns of a comprehension -/
def Btw (F0 H0 F : Hp) (L : List (Addr × HO)) (C : List Ck) (D : Addr) (Iv : List V → Hp → Prop) (H' : Hp) : Prop := ∃ F' acc, Own F0 H0 F' H' ((D, .lst acc) :: L) C ∧ Same F F' ∧ Iv acc F'
theorem w_put {Iv : List V → Hp → Prop} {D : Addr} {acc : List V} {F1 : Hp} (O : Own F0 H0 F1 H ((D, .lst acc) :: L) C) (sF : Same F F1) (hI : Iv (acc ++ [y]) F1) (hz : acc.length < sizeLine) : Put D (Btw F0 H0 F L C D Iv) y H :=
  ⟨acc, O.at_ 0, hz, F1, _, O.set 0 rfl _, sF, hI⟩
theorem w_skip {Iv : List V → Hp → Prop} {D : Addr} {acc : List V} {F1 : Hp} (O : Own F0 H0 F1 H ((D, .lst acc) :: L) C) (sF : Same F F1) (hI : Iv acc F1) : Btw F0 H0 F L C D Iv H := ⟨F1, acc, O, sF, hI⟩
theorem w_yes {Q : Bool → Hp → Prop} (h : Q true H) : tYes σ H Q := h
theorem w_iteT {A B : Prop} (h : A) : if true = true then A else B := by rw [if_pos rfl]; exact h
theorem w_iteF {A B : Prop} (h : B) : if false = true then A else B := by rw [if_neg Bool.false_ne_true]; exact h
theorem lc_any {J : It} {tt : TT} {vs : List Nat} (n : Nat) (Y : Nat → V → Prop) (O : Own F0 H0 F H L C) (Iv : Nat → List V → Hp → Prop) (h0 : Iv 0 [] F)
    (go : ∀ i H' F' acc D, i < n → Own F0 H0 F' H' ((D, .lst acc) :: L) C → Same F F' → J.go i H') (stop : ∀ H' F' acc D, Own F0 H0 F' H' ((D, .lst acc) :: L) C → Same F F' → J.stop n H')
    (yld : ∀ i x H' H2 F' acc D, i < n → Own F0 H0 F' H' ((D, .lst acc) :: L) C → Same F F' → J.yld i H' x H2 → H2 = H' ∧ Y i x)
    (turn : ∀ (i : Nat) x acc D F' H', i < n → Y i x → Iv i acc F' → Same F F' → Own F0 H0 F' H' ((D, .lst acc) :: L) C → g x (wipe σ vs) H' fun σ2 H2 => wipe σ2 vs = wipe σ vs ∧ tt σ2 H2 fun b H3 =>
      if b = true then te σ2 H3 (Put D (Btw F0 H0 F L C D (Iv (i + 1)))) else Btw F0 H0 F L C D (Iv (i + 1)) H3)
    (done : ∀ acc D F' H', Iv n acc F' → Same F F' → Own F0 H0 F' H' ((D, .lst acc) :: L) C → Q (.ref D) H') :
    LcEnd J g tt te vs σ H Q := by
  intro D hD
  refine ⟨fun i k H' => k = n - i ∧ i ≤ n ∧ Btw F0 H0 F L C D (Iv i) H', ⟨n, by omega, Nat.zero_le _, F, [], O.alloc hD _, Same.refl _, h0⟩, ?_⟩
  rintro i k H' ⟨rfl, hi, F', acc, O', sF, hI⟩
  by_cases hlt : i < n
  · refine .inr ⟨go i H' F' acc D hlt O' sF, Btw F0 H0 F L C D (Iv (i + 1)), fun H2 p' => ⟨n - (i + 1), by omega, rfl, hlt, p'⟩, fun x H2 hy => ?_⟩
    obtain ⟨rfl, hY⟩ := yld i x H' H2 F' acc D hlt O' sF hy
    exact turn i x acc D F' _ hlt hY hI sF O'
  · have e : i = n := by omega
    subst e
    exact .inl ⟨stop H' F' acc D O' sF, done acc D F' H' hI sF O'⟩
/-- [te for x in xs], xs a list that the frozen part or another own object holds -/
theorem w_lcL {tt : TT} {vs : List Nat} (O : Own F0 H0 F H L C) (hx : SqL K H a xs) (hl : ∀ {F' H' acc D}, Own F0 H0 F' H' ((D, .lst acc) :: L) C → Same F F' → SqL K H' a xs) (Iv : Nat → List V → Hp → Prop) (h0 : Iv 0 [] F)
    (turn : ∀ (i : Nat) x acc D F' H', xs[i]? = some x → Iv i acc F' → Same F F' → Own F0 H0 F' H' ((D, .lst acc) :: L) C → g x (wipe σ vs) H' fun σ2 H2 => wipe σ2 vs = wipe σ vs ∧ tt σ2 H2 fun b H3 =>
      if b = true then te σ2 H3 (Put D (Btw F0 H0 F L C D (Iv (i + 1)))) else Btw F0 H0 F L C D (Iv (i + 1)) H3)
    (done : ∀ acc D F' H', Iv xs.length acc F' → Same F F' → Own F0 H0 F' H' ((D, .lst acc) :: L) C → Q (.ref D) H') :
    FoL K (.ref a) H fun J H1 => LcEnd J g tt te vs σ H1 Q := by
  refine ⟨a, rfl, ⟨xs, hx⟩, lc_any xs.length (fun i x => xs[i]? = some x) O Iv h0 (fun i H' F' acc D hi O' sF => ?_) (fun H' F' acc D O' sF => ⟨xs, hl O' sF, Nat.le_refl _⟩) (fun i x H' H2 F' acc D hi O' sF hy => ⟨hy.1, hy.2 xs (hl O' sF)⟩) (fun i x acc D F' H' _ hY => turn i x acc D F' H' hY) done⟩
  exact ⟨xs, _, hl O' sF, List.getElem?_eq_getElem hi⟩
theorem w_lcT {tt : TT} {vs : List Nat} (O : Own F0 H0 F H L C) (hx : SqT K H a xs) (hl : ∀ {F' H' acc D}, Own F0 H0 F' H' ((D, .lst acc) :: L) C → Same F F' → SqT K H' a xs) (Iv : Nat → List V → Hp → Prop) (h0 : Iv 0 [] F)
    (turn : ∀ (i : Nat) x acc D F' H', xs[i]? = some x → Iv i acc F' → Same F F' → Own F0 H0 F' H' ((D, .lst acc) :: L) C → g x (wipe σ vs) H' fun σ2 H2 => wipe σ2 vs = wipe σ vs ∧ tt σ2 H2 fun b H3 =>
      if b = true then te σ2 H3 (Put D (Btw F0 H0 F L C D (Iv (i + 1)))) else Btw F0 H0 F L C D (Iv (i + 1)) H3)
    (done : ∀ acc D F' H', Iv xs.length acc F' → Same F F' → Own F0 H0 F' H' ((D, .lst acc) :: L) C → Q (.ref D) H') :
    FoT K (.ref a) H fun J H1 => LcEnd J g tt te vs σ H1 Q := by
  refine ⟨a, rfl, ⟨xs, hx⟩, lc_any xs.length (fun i x => xs[i]? = some x) O Iv h0 (fun i H' F' acc D hi O' sF => ?_) (fun H' F' acc D O' sF => ⟨xs, hl O' sF, Nat.le_refl _⟩) (fun i x H' H2 F' acc D hi O' sF hy => ⟨hy.1, hy.2 xs (hl O' sF)⟩) (fun i x acc D F' H' _ hY => turn i x acc D F' H' hY) done⟩
  exact ⟨xs, _, hl O' sF, List.getElem?_eq_getElem hi⟩
theorem w_lcR1 {tt : TT} {vs : List Nat} {n : Int} (O : Own F0 H0 F H L C) (hn : -(2 ^ 62) ≤ n ∧ n < 2 ^ 62) (Iv : Nat → List V → Hp → Prop) (h0 : Iv 0 [] F)
    (turn : ∀ (i : Nat) acc D F' H', (i : Int) < n → Iv i acc F' → Same F F' → Own F0 H0 F' H' ((D, .lst acc) :: L) C → g (.int (i : Nat)) (wipe σ vs) H' fun σ2 H2 => wipe σ2 vs = wipe σ vs ∧ tt σ2 H2 fun b H3 =>
      if b = true then te σ2 H3 (Put D (Btw F0 H0 F L C D (Iv (i + 1)))) else Btw F0 H0 F L C D (Iv (i + 1)) H3)
    (done : ∀ acc D F' H', Iv n.toNat acc F' → Same F F' → Own F0 H0 F' H' ((D, .lst acc) :: L) C → Q (.ref D) H') :
    Rg1 [.int n] H fun J H1 => LcEnd J g tt te vs σ H1 Q := by
  refine ⟨n, rfl, hn.1, hn.2, lc_any n.toNat (fun i x => x = .int (i : Nat)) O Iv h0 (fun i H' F' acc D hi O' sF => hi) (fun H' F' acc D O' sF => Nat.le_refl _) (fun i x H' H2 F' acc D hi O' sF hy => ⟨hy.1, by rw [hy.2, Int.zero_add]⟩) (fun i x acc D F' H' hi hY => ?_) done⟩
  intro h1 h2 h3
  rw [show x = .int (i : Nat) from hY]
  exact turn i acc D F' H' (by omega) h1 h2 h3
theorem w_lcS {tt : TT} {vs : List Nat} (O : Own F0 H0 F H L C) (Iv : Nat → List V → Hp → Prop) (h0 : Iv 0 [] F)
    (turn : ∀ (i : Nat) (c : Nat) acc D F' H', l[i]? = some c → Iv i acc F' → Same F F' → Own F0 H0 F' H' ((D, .lst acc) :: L) C → g (vS [c]) (wipe σ vs) H' fun σ2 H2 => wipe σ2 vs = wipe σ vs ∧ tt σ2 H2 fun b H3 =>
      if b = true then te σ2 H3 (Put D (Btw F0 H0 F L C D (Iv (i + 1)))) else Btw F0 H0 F L C D (Iv (i + 1)) H3)
    (done : ∀ acc D F' H', Iv l.length acc F' → Same F F' → Own F0 H0 F' H' ((D, .lst acc) :: L) C → Q (.ref D) H') :
    FoS (vS l) H fun J H1 => LcEnd J g tt te vs σ H1 Q := by
  have hsz : (S l).cps.size = l.length := by simp [S]
  refine ⟨S l, rfl, lc_any l.length (fun i x => ∃ c, l[i]? = some c ∧ x = vS [c]) O Iv h0 (fun i H' F' acc D hi O' sF => ?_) (fun H' F' acc D O' sF => ?_) (fun i x H' H2 F' acc D hi O' sF hy => ?_) (fun i x acc D F' H' hi hY => ?_) done⟩
  · show i < (S l).cps.size
    rw [hsz]; exact hi
  · show (S l).cps.size ≤ l.length
    rw [hsz]; exact Nat.le_refl _
  · obtain ⟨h1, c, hc, rfl⟩ := hy
    exact ⟨h1, c, by simpa [S] using hc, rfl⟩
  · obtain ⟨c, hc, rfl⟩ := hY
    exact turn i c acc D F' H' hc
end

/-! ### defs -/
section
variable {P : Program} {w : World} {K : PySem.W.Frag} {mg : Str → Option Value} {base : Heap}
theorem dn_mk {x q : Str} {st : Stmt} {f : Addr} {N ps : List Str} {k : Nat} {sp : Sp} (F : ∃ fd, FnP K x q st f fd) (S : FnScope N ps (defScope st))
    (hb : ∀ (kV doc pm : Value) (an : Option Addr) (cdv ct : Value) (us : List Value), us.length = ps.length → bindArgs (PySem.W.fnOf x q (defArgs st) (defBody st) (defScope st) .none kV doc pm an cdv ct) ⟨us, []⟩ = pure (ps.zip us))
    (len : ∀ vs H Q E, sp vs H Q E → vs.length = ps.length)
    (hbody : ∀ (cdv : Value) (A : Around) (outer : List Env) (s : Shared) (H : Hp) (vs : List V) (Q : VK) (E : XK), Room k (A.deeper (envOfC q (defScope st) s.heap.objs.size f cdv)) → sp vs H Q E →
      ∃ t, PSs (cxOf CX0 P w K mg base N q (defScope st) f cdv A outer s H E).nox (defBody st) t ∧ t ⟨fun _ H' => Q .non H', Q, fun _ _ => False, fun _ _ => False⟩ (start N vs) H) : Dn P w K mg base (k + 1) f ps sp := by
  obtain ⟨fd, F⟩ := F
  refine ⟨fd, F.ok S len fun cdv A outer s H vs Q E hr hsp => ?_, F.bindsN hb, F.kp, ?_⟩
  · obtain ⟨t, h, q⟩ := hbody cdv A outer s H vs Q E hr hsp
    exact ⟨t, h.nox, q⟩
  · obtain ⟨oc, od, dV, kV, doc, pm, an, cdv, ct, osl, e, lk, _⟩ := F.ex
    exact ⟨_, _, _, lk⟩
theorem lk_same {f : Addr} {fd fd' : FuncData} (h : Lk K f fd) (h' : Lk K f fd') : fd = fd' := by
  obtain ⟨oc, od, osl, lk⟩ := h
  obtain ⟨oc', od', osl', lk'⟩ := h'
  rw [lk] at lk'
  injection lk' with e
  injection e with _ _ e _
  injection e
theorem lk_of {x q : Str} {st : Stmt} {f : Addr} {fd : FuncData} (F : FnP K x q st f fd) : Lk K f fd := by
  obtain ⟨oc, od, dV, kV, doc, pm, an, cdv, ct, osl, e, lk, _⟩ := F.ex
  exact ⟨_, _, _, lk⟩
end

/-! ### promises of defs that hand back a plain value -/
def SpecV (A : Hp → Prop) (R : V → Prop) (H : Hp) (Q : VK) : Prop := ∃ F, Same F H ∧ A F ∧ ∀ v H', Same H H' → R v → Q v H'
theorem Own.callV {F0 H0 F H : Hp} {L : List (Addr × HO)} {C : List Ck} {A : Hp → Prop} {R : V → Prop} {Q : VK} (O : Own F0 H0 F H L C) (hA : A F) (k : ∀ v H', R v → Own F0 H0 F H' L C → Q v H') : SpecV A R H Q :=
  ⟨F, O.fh, hA, fun _ _ s r => k _ _ r (O.more s)⟩
theorem Own.retV {F H F' H' : Hp} {L : List (Addr × HO)} {C : List Ck} {R : V → Prop} {Q : VK} {v : V} (O : Own F H F' H' L C) (q : ∀ v H', Same H H' → R v → Q v H') (r : R v) : Q v H' := q _ _ O.hh r

/-! ### items -/
section
variable {H : Hp} {Q : VK} {K : PySem.W.Frag} {a : Addr} {l : List Nat} {ns : List Int} {i : Int}
theorem atI_get {α : Type} {xs : List α} {d : α} (h : 0 ≤ i ∧ i < xs.length) : atI xs i = some (xs.getD i.toNat d) := by
  have e : i = ((i.toNat : Nat) : Int) := (Int.toNat_of_nonneg h.1).symm
  have hl : i.toNat < xs.length := by omega
  have h2 := atI_nat (xs := xs) (j := i.toNat) (v := xs.getD i.toNat d) (by rw [List.getD_eq_getElem?_getD, List.getElem?_eq_getElem hl]; rfl)
  rw [← e] at h2
  exact h2
theorem w_ixN (q : Q (.int (ns.getD i.toNat 0)) H) (hs : SqL K H a (ns.map V.int)) (h : 0 ≤ i ∧ i < ns.length) : rIxL K (.ref a) (.int i) H Q := by
  refine w_ixL q hs ?_
  have h2 := atI_get (xs := ns.map V.int) (d := .int 0) (i := i) (by rw [List.length_map]; exact h)
  rw [h2]
  congr 1
  rw [List.getD_eq_getElem?_getD, List.getD_eq_getElem?_getD, List.getElem?_map]
  cases ns[i.toNat]? <;> rfl
theorem w_ixC (q : Q (vS [l.getD i.toNat 0]) H) (h : 0 ≤ i ∧ i < l.length) (hz : l.length ≤ sizeLine) : rIxSg (vS l) (.int i) H Q := w_ixS q (atI_get h) hz
theorem getD_map_int (ns : List Int) (n : Nat) : (ns.map V.int).getD n (.int 0) = .int (ns.getD n 0) := by
  rw [List.getD_eq_getElem?_getD, List.getD_eq_getElem?_getD, List.getElem?_map]
  cases ns[n]? <;> rfl
theorem getD_mem {α : Type} {xs : List α} {n : Nat} {d : α} (h : n < xs.length) : xs.getD n d ∈ xs := by
  rw [List.getD_eq_getElem?_getD, List.getElem?_eq_getElem h]
  exact List.getElem_mem h
end
end Fw

namespace Fw
open PySem PySem.Spec PyProof.Rows L2
/-! ### the same steps as equations -/
section
variable {nx bk ct : L2.St → Hp → Prop} {rt : VK} {t u tb : TS} {H : Hp} {te ta tc : TE} {Q : VK} {v x y : V} {g : TG} {tt tt' : TT} {tA : TA} {K : PySem.W.Frag} {σs : L2.St}

theorem q_var0 {σ : L2.St} : tVar 0 (some v :: σ) H Q = Q v H := propext ⟨fun ⟨_, e, q⟩ => by cases (show some v = some _ from Option.some.inj e); exact q, fun q => ⟨v, rfl, q⟩⟩
theorem q_asg0 {o : Option V} {σ : L2.St} : tAsg te (gName 0) ⟨nx, rt, bk, ct⟩ (o :: σ) H = te (o :: σ) H fun x H1 => nx (some x :: σ) H1 := rfl
theorem q_gn0 {o : Option V} {σ : L2.St} {R : L2.St → Hp → Prop} : gName 0 v (o :: σ) H R = R (some v :: σ) H := rfl
theorem q_aug0 {f : Int → Int → Int} {a : Int} {σ : L2.St} : tAug 0 te (ipI f) ⟨nx, rt, bk, ct⟩ (some (.int a) :: σ) H = te (some (.int a) :: σ) H fun y H1 => ∃ b, y = .int b ∧ nx (some (.int (f a b)) :: σ) H1 := by
  have e : (fun y H1 => ∃ b, y = V.int b ∧ nx (some (.int (f a b)) :: σ) H1) = (fun y H1 => ipI f (.int a) y H1 fun z H2 => nx (some z :: σ) H2) := by
    funext y H1
    exact propext ⟨fun ⟨b, e1, q⟩ => ⟨a, b, rfl, e1, q⟩, fun ⟨a', b, e0, e1, q⟩ => by cases e0; exact ⟨b, e1, q⟩⟩
  rw [e]
  exact propext ⟨fun ⟨x, e, q⟩ => by cases (show some (V.int a) = some _ from Option.some.inj e); exact q, fun q => ⟨_, rfl, q⟩⟩
theorem q_var1 {x0 : Option V} {σ : L2.St} : tVar 1 (x0 :: some v :: σ) H Q = Q v H := propext ⟨fun ⟨_, e, q⟩ => by cases (show some v = some _ from Option.some.inj e); exact q, fun q => ⟨v, rfl, q⟩⟩
theorem q_asg1 {x0 : Option V} {o : Option V} {σ : L2.St} : tAsg te (gName 1) ⟨nx, rt, bk, ct⟩ (x0 :: o :: σ) H = te (x0 :: o :: σ) H fun x H1 => nx (x0 :: some x :: σ) H1 := rfl
theorem q_gn1 {x0 : Option V} {o : Option V} {σ : L2.St} {R : L2.St → Hp → Prop} : gName 1 v (x0 :: o :: σ) H R = R (x0 :: some v :: σ) H := rfl
theorem q_aug1 {x0 : Option V} {f : Int → Int → Int} {a : Int} {σ : L2.St} : tAug 1 te (ipI f) ⟨nx, rt, bk, ct⟩ (x0 :: some (.int a) :: σ) H = te (x0 :: some (.int a) :: σ) H fun y H1 => ∃ b, y = .int b ∧ nx (x0 :: some (.int (f a b)) :: σ) H1 := by
  have e : (fun y H1 => ∃ b, y = V.int b ∧ nx (x0 :: some (.int (f a b)) :: σ) H1) = (fun y H1 => ipI f (.int a) y H1 fun z H2 => nx (x0 :: some z :: σ) H2) := by
    funext y H1
    exact propext ⟨fun ⟨b, e1, q⟩ => ⟨a, b, rfl, e1, q⟩, fun ⟨a', b, e0, e1, q⟩ => by cases e0; exact ⟨b, e1, q⟩⟩
  rw [e]
  exact propext ⟨fun ⟨x, e, q⟩ => by cases (show some (V.int a) = some _ from Option.some.inj e); exact q, fun q => ⟨_, rfl, q⟩⟩
theorem q_var2 {x0 x1 : Option V} {σ : L2.St} : tVar 2 (x0 :: x1 :: some v :: σ) H Q = Q v H := propext ⟨fun ⟨_, e, q⟩ => by cases (show some v = some _ from Option.some.inj e); exact q, fun q => ⟨v, rfl, q⟩⟩
theorem q_asg2 {x0 x1 : Option V} {o : Option V} {σ : L2.St} : tAsg te (gName 2) ⟨nx, rt, bk, ct⟩ (x0 :: x1 :: o :: σ) H = te (x0 :: x1 :: o :: σ) H fun x H1 => nx (x0 :: x1 :: some x :: σ) H1 := rfl
theorem q_gn2 {x0 x1 : Option V} {o : Option V} {σ : L2.St} {R : L2.St → Hp → Prop} : gName 2 v (x0 :: x1 :: o :: σ) H R = R (x0 :: x1 :: some v :: σ) H := rfl
theorem q_aug2 {x0 x1 : Option V} {f : Int → Int → Int} {a : Int} {σ : L2.St} : tAug 2 te (ipI f) ⟨nx, rt, bk, ct⟩ (x0 :: x1 :: some (.int a) :: σ) H = te (x0 :: x1 :: some (.int a) :: σ) H fun y H1 => ∃ b, y = .int b ∧ nx (x0 :: x1 :: some (.int (f a b)) :: σ) H1 := by
  have e : (fun y H1 => ∃ b, y = V.int b ∧ nx (x0 :: x1 :: some (.int (f a b)) :: σ) H1) = (fun y H1 => ipI f (.int a) y H1 fun z H2 => nx (x0 :: x1 :: some z :: σ) H2) := by
    funext y H1
    exact propext ⟨fun ⟨b, e1, q⟩ => ⟨a, b, rfl, e1, q⟩, fun ⟨a', b, e0, e1, q⟩ => by cases e0; exact ⟨b, e1, q⟩⟩
  rw [e]
  exact propext ⟨fun ⟨x, e, q⟩ => by cases (show some (V.int a) = some _ from Option.some.inj e); exact q, fun q => ⟨_, rfl, q⟩⟩
theorem q_var3 {x0 x1 x2 : Option V} {σ : L2.St} : tVar 3 (x0 :: x1 :: x2 :: some v :: σ) H Q = Q v H := propext ⟨fun ⟨_, e, q⟩ => by cases (show some v = some _ from Option.some.inj e); exact q, fun q => ⟨v, rfl, q⟩⟩
theorem q_asg3 {x0 x1 x2 : Option V} {o : Option V} {σ : L2.St} : tAsg te (gName 3) ⟨nx, rt, bk, ct⟩ (x0 :: x1 :: x2 :: o :: σ) H = te (x0 :: x1 :: x2 :: o :: σ) H fun x H1 => nx (x0 :: x1 :: x2 :: some x :: σ) H1 := rfl
theorem q_gn3 {x0 x1 x2 : Option V} {o : Option V} {σ : L2.St} {R : L2.St → Hp → Prop} : gName 3 v (x0 :: x1 :: x2 :: o :: σ) H R = R (x0 :: x1 :: x2 :: some v :: σ) H := rfl
theorem q_aug3 {x0 x1 x2 : Option V} {f : Int → Int → Int} {a : Int} {σ : L2.St} : tAug 3 te (ipI f) ⟨nx, rt, bk, ct⟩ (x0 :: x1 :: x2 :: some (.int a) :: σ) H = te (x0 :: x1 :: x2 :: some (.int a) :: σ) H fun y H1 => ∃ b, y = .int b ∧ nx (x0 :: x1 :: x2 :: some (.int (f a b)) :: σ) H1 := by
  have e : (fun y H1 => ∃ b, y = V.int b ∧ nx (x0 :: x1 :: x2 :: some (.int (f a b)) :: σ) H1) = (fun y H1 => ipI f (.int a) y H1 fun z H2 => nx (x0 :: x1 :: x2 :: some z :: σ) H2) := by
    funext y H1
    exact propext ⟨fun ⟨b, e1, q⟩ => ⟨a, b, rfl, e1, q⟩, fun ⟨a', b, e0, e1, q⟩ => by cases e0; exact ⟨b, e1, q⟩⟩
  rw [e]
  exact propext ⟨fun ⟨x, e, q⟩ => by cases (show some (V.int a) = some _ from Option.some.inj e); exact q, fun q => ⟨_, rfl, q⟩⟩
theorem q_var4 {x0 x1 x2 x3 : Option V} {σ : L2.St} : tVar 4 (x0 :: x1 :: x2 :: x3 :: some v :: σ) H Q = Q v H := propext ⟨fun ⟨_, e, q⟩ => by cases (show some v = some _ from Option.some.inj e); exact q, fun q => ⟨v, rfl, q⟩⟩
theorem q_asg4 {x0 x1 x2 x3 : Option V} {o : Option V} {σ : L2.St} : tAsg te (gName 4) ⟨nx, rt, bk, ct⟩ (x0 :: x1 :: x2 :: x3 :: o :: σ) H = te (x0 :: x1 :: x2 :: x3 :: o :: σ) H fun x H1 => nx (x0 :: x1 :: x2 :: x3 :: some x :: σ) H1 := rfl
theorem q_gn4 {x0 x1 x2 x3 : Option V} {o : Option V} {σ : L2.St} {R : L2.St → Hp → Prop} : gName 4 v (x0 :: x1 :: x2 :: x3 :: o :: σ) H R = R (x0 :: x1 :: x2 :: x3 :: some v :: σ) H := rfl
theorem q_aug4 {x0 x1 x2 x3 : Option V} {f : Int → Int → Int} {a : Int} {σ : L2.St} : tAug 4 te (ipI f) ⟨nx, rt, bk, ct⟩ (x0 :: x1 :: x2 :: x3 :: some (.int a) :: σ) H = te (x0 :: x1 :: x2 :: x3 :: some (.int a) :: σ) H fun y H1 => ∃ b, y = .int b ∧ nx (x0 :: x1 :: x2 :: x3 :: some (.int (f a b)) :: σ) H1 := by
  have e : (fun y H1 => ∃ b, y = V.int b ∧ nx (x0 :: x1 :: x2 :: x3 :: some (.int (f a b)) :: σ) H1) = (fun y H1 => ipI f (.int a) y H1 fun z H2 => nx (x0 :: x1 :: x2 :: x3 :: some z :: σ) H2) := by
    funext y H1
    exact propext ⟨fun ⟨b, e1, q⟩ => ⟨a, b, rfl, e1, q⟩, fun ⟨a', b, e0, e1, q⟩ => by cases e0; exact ⟨b, e1, q⟩⟩
  rw [e]
  exact propext ⟨fun ⟨x, e, q⟩ => by cases (show some (V.int a) = some _ from Option.some.inj e); exact q, fun q => ⟨_, rfl, q⟩⟩
theorem q_var5 {x0 x1 x2 x3 x4 : Option V} {σ : L2.St} : tVar 5 (x0 :: x1 :: x2 :: x3 :: x4 :: some v :: σ) H Q = Q v H := propext ⟨fun ⟨_, e, q⟩ => by cases (show some v = some _ from Option.some.inj e); exact q, fun q => ⟨v, rfl, q⟩⟩
theorem q_asg5 {x0 x1 x2 x3 x4 : Option V} {o : Option V} {σ : L2.St} : tAsg te (gName 5) ⟨nx, rt, bk, ct⟩ (x0 :: x1 :: x2 :: x3 :: x4 :: o :: σ) H = te (x0 :: x1 :: x2 :: x3 :: x4 :: o :: σ) H fun x H1 => nx (x0 :: x1 :: x2 :: x3 :: x4 :: some x :: σ) H1 := rfl
theorem q_gn5 {x0 x1 x2 x3 x4 : Option V} {o : Option V} {σ : L2.St} {R : L2.St → Hp → Prop} : gName 5 v (x0 :: x1 :: x2 :: x3 :: x4 :: o :: σ) H R = R (x0 :: x1 :: x2 :: x3 :: x4 :: some v :: σ) H := rfl
theorem q_aug5 {x0 x1 x2 x3 x4 : Option V} {f : Int → Int → Int} {a : Int} {σ : L2.St} : tAug 5 te (ipI f) ⟨nx, rt, bk, ct⟩ (x0 :: x1 :: x2 :: x3 :: x4 :: some (.int a) :: σ) H = te (x0 :: x1 :: x2 :: x3 :: x4 :: some (.int a) :: σ) H fun y H1 => ∃ b, y = .int b ∧ nx (x0 :: x1 :: x2 :: x3 :: x4 :: some (.int (f a b)) :: σ) H1 := by
  have e : (fun y H1 => ∃ b, y = V.int b ∧ nx (x0 :: x1 :: x2 :: x3 :: x4 :: some (.int (f a b)) :: σ) H1) = (fun y H1 => ipI f (.int a) y H1 fun z H2 => nx (x0 :: x1 :: x2 :: x3 :: x4 :: some z :: σ) H2) := by
    funext y H1
    exact propext ⟨fun ⟨b, e1, q⟩ => ⟨a, b, rfl, e1, q⟩, fun ⟨a', b, e0, e1, q⟩ => by cases e0; exact ⟨b, e1, q⟩⟩
  rw [e]
  exact propext ⟨fun ⟨x, e, q⟩ => by cases (show some (V.int a) = some _ from Option.some.inj e); exact q, fun q => ⟨_, rfl, q⟩⟩
theorem q_var6 {x0 x1 x2 x3 x4 x5 : Option V} {σ : L2.St} : tVar 6 (x0 :: x1 :: x2 :: x3 :: x4 :: x5 :: some v :: σ) H Q = Q v H := propext ⟨fun ⟨_, e, q⟩ => by cases (show some v = some _ from Option.some.inj e); exact q, fun q => ⟨v, rfl, q⟩⟩
theorem q_asg6 {x0 x1 x2 x3 x4 x5 : Option V} {o : Option V} {σ : L2.St} : tAsg te (gName 6) ⟨nx, rt, bk, ct⟩ (x0 :: x1 :: x2 :: x3 :: x4 :: x5 :: o :: σ) H = te (x0 :: x1 :: x2 :: x3 :: x4 :: x5 :: o :: σ) H fun x H1 => nx (x0 :: x1 :: x2 :: x3 :: x4 :: x5 :: some x :: σ) H1 := rfl
theorem q_gn6 {x0 x1 x2 x3 x4 x5 : Option V} {o : Option V} {σ : L2.St} {R : L2.St → Hp → Prop} : gName 6 v (x0 :: x1 :: x2 :: x3 :: x4 :: x5 :: o :: σ) H R = R (x0 :: x1 :: x2 :: x3 :: x4 :: x5 :: some v :: σ) H := rfl
theorem q_aug6 {x0 x1 x2 x3 x4 x5 : Option V} {f : Int → Int → Int} {a : Int} {σ : L2.St} : tAug 6 te (ipI f) ⟨nx, rt, bk, ct⟩ (x0 :: x1 :: x2 :: x3 :: x4 :: x5 :: some (.int a) :: σ) H = te (x0 :: x1 :: x2 :: x3 :: x4 :: x5 :: some (.int a) :: σ) H fun y H1 => ∃ b, y = .int b ∧ nx (x0 :: x1 :: x2 :: x3 :: x4 :: x5 :: some (.int (f a b)) :: σ) H1 := by
  have e : (fun y H1 => ∃ b, y = V.int b ∧ nx (x0 :: x1 :: x2 :: x3 :: x4 :: x5 :: some (.int (f a b)) :: σ) H1) = (fun y H1 => ipI f (.int a) y H1 fun z H2 => nx (x0 :: x1 :: x2 :: x3 :: x4 :: x5 :: some z :: σ) H2) := by
    funext y H1
    exact propext ⟨fun ⟨b, e1, q⟩ => ⟨a, b, rfl, e1, q⟩, fun ⟨a', b, e0, e1, q⟩ => by cases e0; exact ⟨b, e1, q⟩⟩
  rw [e]
  exact propext ⟨fun ⟨x, e, q⟩ => by cases (show some (V.int a) = some _ from Option.some.inj e); exact q, fun q => ⟨_, rfl, q⟩⟩
theorem q_var7 {x0 x1 x2 x3 x4 x5 x6 : Option V} {σ : L2.St} : tVar 7 (x0 :: x1 :: x2 :: x3 :: x4 :: x5 :: x6 :: some v :: σ) H Q = Q v H := propext ⟨fun ⟨_, e, q⟩ => by cases (show some v = some _ from Option.some.inj e); exact q, fun q => ⟨v, rfl, q⟩⟩
theorem q_asg7 {x0 x1 x2 x3 x4 x5 x6 : Option V} {o : Option V} {σ : L2.St} : tAsg te (gName 7) ⟨nx, rt, bk, ct⟩ (x0 :: x1 :: x2 :: x3 :: x4 :: x5 :: x6 :: o :: σ) H = te (x0 :: x1 :: x2 :: x3 :: x4 :: x5 :: x6 :: o :: σ) H fun x H1 => nx (x0 :: x1 :: x2 :: x3 :: x4 :: x5 :: x6 :: some x :: σ) H1 := rfl
theorem q_gn7 {x0 x1 x2 x3 x4 x5 x6 : Option V} {o : Option V} {σ : L2.St} {R : L2.St → Hp → Prop} : gName 7 v (x0 :: x1 :: x2 :: x3 :: x4 :: x5 :: x6 :: o :: σ) H R = R (x0 :: x1 :: x2 :: x3 :: x4 :: x5 :: x6 :: some v :: σ) H := rfl
theorem q_aug7 {x0 x1 x2 x3 x4 x5 x6 : Option V} {f : Int → Int → Int} {a : Int} {σ : L2.St} : tAug 7 te (ipI f) ⟨nx, rt, bk, ct⟩ (x0 :: x1 :: x2 :: x3 :: x4 :: x5 :: x6 :: some (.int a) :: σ) H = te (x0 :: x1 :: x2 :: x3 :: x4 :: x5 :: x6 :: some (.int a) :: σ) H fun y H1 => ∃ b, y = .int b ∧ nx (x0 :: x1 :: x2 :: x3 :: x4 :: x5 :: x6 :: some (.int (f a b)) :: σ) H1 := by
  have e : (fun y H1 => ∃ b, y = V.int b ∧ nx (x0 :: x1 :: x2 :: x3 :: x4 :: x5 :: x6 :: some (.int (f a b)) :: σ) H1) = (fun y H1 => ipI f (.int a) y H1 fun z H2 => nx (x0 :: x1 :: x2 :: x3 :: x4 :: x5 :: x6 :: some z :: σ) H2) := by
    funext y H1
    exact propext ⟨fun ⟨b, e1, q⟩ => ⟨a, b, rfl, e1, q⟩, fun ⟨a', b, e0, e1, q⟩ => by cases e0; exact ⟨b, e1, q⟩⟩
  rw [e]
  exact propext ⟨fun ⟨x, e, q⟩ => by cases (show some (V.int a) = some _ from Option.some.inj e); exact q, fun q => ⟨_, rfl, q⟩⟩
theorem q_var8 {x0 x1 x2 x3 x4 x5 x6 x7 : Option V} {σ : L2.St} : tVar 8 (x0 :: x1 :: x2 :: x3 :: x4 :: x5 :: x6 :: x7 :: some v :: σ) H Q = Q v H := propext ⟨fun ⟨_, e, q⟩ => by cases (show some v = some _ from Option.some.inj e); exact q, fun q => ⟨v, rfl, q⟩⟩
theorem q_asg8 {x0 x1 x2 x3 x4 x5 x6 x7 : Option V} {o : Option V} {σ : L2.St} : tAsg te (gName 8) ⟨nx, rt, bk, ct⟩ (x0 :: x1 :: x2 :: x3 :: x4 :: x5 :: x6 :: x7 :: o :: σ) H = te (x0 :: x1 :: x2 :: x3 :: x4 :: x5 :: x6 :: x7 :: o :: σ) H fun x H1 => nx (x0 :: x1 :: x2 :: x3 :: x4 :: x5 :: x6 :: x7 :: some x :: σ) H1 := rfl
theorem q_gn8 {x0 x1 x2 x3 x4 x5 x6 x7 : Option V} {o : Option V} {σ : L2.St} {R : L2.St → Hp → Prop} : gName 8 v (x0 :: x1 :: x2 :: x3 :: x4 :: x5 :: x6 :: x7 :: o :: σ) H R = R (x0 :: x1 :: x2 :: x3 :: x4 :: x5 :: x6 :: x7 :: some v :: σ) H := rfl
theorem q_aug8 {x0 x1 x2 x3 x4 x5 x6 x7 : Option V} {f : Int → Int → Int} {a : Int} {σ : L2.St} : tAug 8 te (ipI f) ⟨nx, rt, bk, ct⟩ (x0 :: x1 :: x2 :: x3 :: x4 :: x5 :: x6 :: x7 :: some (.int a) :: σ) H = te (x0 :: x1 :: x2 :: x3 :: x4 :: x5 :: x6 :: x7 :: some (.int a) :: σ) H fun y H1 => ∃ b, y = .int b ∧ nx (x0 :: x1 :: x2 :: x3 :: x4 :: x5 :: x6 :: x7 :: some (.int (f a b)) :: σ) H1 := by
  have e : (fun y H1 => ∃ b, y = V.int b ∧ nx (x0 :: x1 :: x2 :: x3 :: x4 :: x5 :: x6 :: x7 :: some (.int (f a b)) :: σ) H1) = (fun y H1 => ipI f (.int a) y H1 fun z H2 => nx (x0 :: x1 :: x2 :: x3 :: x4 :: x5 :: x6 :: x7 :: some z :: σ) H2) := by
    funext y H1
    exact propext ⟨fun ⟨b, e1, q⟩ => ⟨a, b, rfl, e1, q⟩, fun ⟨a', b, e0, e1, q⟩ => by cases e0; exact ⟨b, e1, q⟩⟩
  rw [e]
  exact propext ⟨fun ⟨x, e, q⟩ => by cases (show some (V.int a) = some _ from Option.some.inj e); exact q, fun q => ⟨_, rfl, q⟩⟩
theorem q_var9 {x0 x1 x2 x3 x4 x5 x6 x7 x8 : Option V} {σ : L2.St} : tVar 9 (x0 :: x1 :: x2 :: x3 :: x4 :: x5 :: x6 :: x7 :: x8 :: some v :: σ) H Q = Q v H := propext ⟨fun ⟨_, e, q⟩ => by cases (show some v = some _ from Option.some.inj e); exact q, fun q => ⟨v, rfl, q⟩⟩
theorem q_asg9 {x0 x1 x2 x3 x4 x5 x6 x7 x8 : Option V} {o : Option V} {σ : L2.St} : tAsg te (gName 9) ⟨nx, rt, bk, ct⟩ (x0 :: x1 :: x2 :: x3 :: x4 :: x5 :: x6 :: x7 :: x8 :: o :: σ) H = te (x0 :: x1 :: x2 :: x3 :: x4 :: x5 :: x6 :: x7 :: x8 :: o :: σ) H fun x H1 => nx (x0 :: x1 :: x2 :: x3 :: x4 :: x5 :: x6 :: x7 :: x8 :: some x :: σ) H1 := rfl
theorem q_gn9 {x0 x1 x2 x3 x4 x5 x6 x7 x8 : Option V} {o : Option V} {σ : L2.St} {R : L2.St → Hp → Prop} : gName 9 v (x0 :: x1 :: x2 :: x3 :: x4 :: x5 :: x6 :: x7 :: x8 :: o :: σ) H R = R (x0 :: x1 :: x2 :: x3 :: x4 :: x5 :: x6 :: x7 :: x8 :: some v :: σ) H := rfl
theorem q_aug9 {x0 x1 x2 x3 x4 x5 x6 x7 x8 : Option V} {f : Int → Int → Int} {a : Int} {σ : L2.St} : tAug 9 te (ipI f) ⟨nx, rt, bk, ct⟩ (x0 :: x1 :: x2 :: x3 :: x4 :: x5 :: x6 :: x7 :: x8 :: some (.int a) :: σ) H = te (x0 :: x1 :: x2 :: x3 :: x4 :: x5 :: x6 :: x7 :: x8 :: some (.int a) :: σ) H fun y H1 => ∃ b, y = .int b ∧ nx (x0 :: x1 :: x2 :: x3 :: x4 :: x5 :: x6 :: x7 :: x8 :: some (.int (f a b)) :: σ) H1 := by
  have e : (fun y H1 => ∃ b, y = V.int b ∧ nx (x0 :: x1 :: x2 :: x3 :: x4 :: x5 :: x6 :: x7 :: x8 :: some (.int (f a b)) :: σ) H1) = (fun y H1 => ipI f (.int a) y H1 fun z H2 => nx (x0 :: x1 :: x2 :: x3 :: x4 :: x5 :: x6 :: x7 :: x8 :: some z :: σ) H2) := by
    funext y H1
    exact propext ⟨fun ⟨b, e1, q⟩ => ⟨a, b, rfl, e1, q⟩, fun ⟨a', b, e0, e1, q⟩ => by cases e0; exact ⟨b, e1, q⟩⟩
  rw [e]
  exact propext ⟨fun ⟨x, e, q⟩ => by cases (show some (V.int a) = some _ from Option.some.inj e); exact q, fun q => ⟨_, rfl, q⟩⟩
theorem q_var10 {x0 x1 x2 x3 x4 x5 x6 x7 x8 x9 : Option V} {σ : L2.St} : tVar 10 (x0 :: x1 :: x2 :: x3 :: x4 :: x5 :: x6 :: x7 :: x8 :: x9 :: some v :: σ) H Q = Q v H := propext ⟨fun ⟨_, e, q⟩ => by cases (show some v = some _ from Option.some.inj e); exact q, fun q => ⟨v, rfl, q⟩⟩
theorem q_asg10 {x0 x1 x2 x3 x4 x5 x6 x7 x8 x9 : Option V} {o : Option V} {σ : L2.St} : tAsg te (gName 10) ⟨nx, rt, bk, ct⟩ (x0 :: x1 :: x2 :: x3 :: x4 :: x5 :: x6 :: x7 :: x8 :: x9 :: o :: σ) H = te (x0 :: x1 :: x2 :: x3 :: x4 :: x5 :: x6 :: x7 :: x8 :: x9 :: o :: σ) H fun x H1 => nx (x0 :: x1 :: x2 :: x3 :: x4 :: x5 :: x6 :: x7 :: x8 :: x9 :: some x :: σ) H1 := rfl
theorem q_gn10 {x0 x1 x2 x3 x4 x5 x6 x7 x8 x9 : Option V} {o : Option V} {σ : L2.St} {R : L2.St → Hp → Prop} : gName 10 v (x0 :: x1 :: x2 :: x3 :: x4 :: x5 :: x6 :: x7 :: x8 :: x9 :: o :: σ) H R = R (x0 :: x1 :: x2 :: x3 :: x4 :: x5 :: x6 :: x7 :: x8 :: x9 :: some v :: σ) H := rfl
theorem q_aug10 {x0 x1 x2 x3 x4 x5 x6 x7 x8 x9 : Option V} {f : Int → Int → Int} {a : Int} {σ : L2.St} : tAug 10 te (ipI f) ⟨nx, rt, bk, ct⟩ (x0 :: x1 :: x2 :: x3 :: x4 :: x5 :: x6 :: x7 :: x8 :: x9 :: some (.int a) :: σ) H = te (x0 :: x1 :: x2 :: x3 :: x4 :: x5 :: x6 :: x7 :: x8 :: x9 :: some (.int a) :: σ) H fun y H1 => ∃ b, y = .int b ∧ nx (x0 :: x1 :: x2 :: x3 :: x4 :: x5 :: x6 :: x7 :: x8 :: x9 :: some (.int (f a b)) :: σ) H1 := by
  have e : (fun y H1 => ∃ b, y = V.int b ∧ nx (x0 :: x1 :: x2 :: x3 :: x4 :: x5 :: x6 :: x7 :: x8 :: x9 :: some (.int (f a b)) :: σ) H1) = (fun y H1 => ipI f (.int a) y H1 fun z H2 => nx (x0 :: x1 :: x2 :: x3 :: x4 :: x5 :: x6 :: x7 :: x8 :: x9 :: some z :: σ) H2) := by
    funext y H1
    exact propext ⟨fun ⟨b, e1, q⟩ => ⟨a, b, rfl, e1, q⟩, fun ⟨a', b, e0, e1, q⟩ => by cases e0; exact ⟨b, e1, q⟩⟩
  rw [e]
  exact propext ⟨fun ⟨x, e, q⟩ => by cases (show some (V.int a) = some _ from Option.some.inj e); exact q, fun q => ⟨_, rfl, q⟩⟩
theorem q_var11 {x0 x1 x2 x3 x4 x5 x6 x7 x8 x9 x10 : Option V} {σ : L2.St} : tVar 11 (x0 :: x1 :: x2 :: x3 :: x4 :: x5 :: x6 :: x7 :: x8 :: x9 :: x10 :: some v :: σ) H Q = Q v H := propext ⟨fun ⟨_, e, q⟩ => by cases (show some v = some _ from Option.some.inj e); exact q, fun q => ⟨v, rfl, q⟩⟩
theorem q_asg11 {x0 x1 x2 x3 x4 x5 x6 x7 x8 x9 x10 : Option V} {o : Option V} {σ : L2.St} : tAsg te (gName 11) ⟨nx, rt, bk, ct⟩ (x0 :: x1 :: x2 :: x3 :: x4 :: x5 :: x6 :: x7 :: x8 :: x9 :: x10 :: o :: σ) H = te (x0 :: x1 :: x2 :: x3 :: x4 :: x5 :: x6 :: x7 :: x8 :: x9 :: x10 :: o :: σ) H fun x H1 => nx (x0 :: x1 :: x2 :: x3 :: x4 :: x5 :: x6 :: x7 :: x8 :: x9 :: x10 :: some x :: σ) H1 := rfl
theorem q_gn11 {x0 x1 x2 x3 x4 x5 x6 x7 x8 x9 x10 : Option V} {o : Option V} {σ : L2.St} {R : L2.St → Hp → Prop} : gName 11 v (x0 :: x1 :: x2 :: x3 :: x4 :: x5 :: x6 :: x7 :: x8 :: x9 :: x10 :: o :: σ) H R = R (x0 :: x1 :: x2 :: x3 :: x4 :: x5 :: x6 :: x7 :: x8 :: x9 :: x10 :: some v :: σ) H := rfl
theorem q_aug11 {x0 x1 x2 x3 x4 x5 x6 x7 x8 x9 x10 : Option V} {f : Int → Int → Int} {a : Int} {σ : L2.St} : tAug 11 te (ipI f) ⟨nx, rt, bk, ct⟩ (x0 :: x1 :: x2 :: x3 :: x4 :: x5 :: x6 :: x7 :: x8 :: x9 :: x10 :: some (.int a) :: σ) H = te (x0 :: x1 :: x2 :: x3 :: x4 :: x5 :: x6 :: x7 :: x8 :: x9 :: x10 :: some (.int a) :: σ) H fun y H1 => ∃ b, y = .int b ∧ nx (x0 :: x1 :: x2 :: x3 :: x4 :: x5 :: x6 :: x7 :: x8 :: x9 :: x10 :: some (.int (f a b)) :: σ) H1 := by
  have e : (fun y H1 => ∃ b, y = V.int b ∧ nx (x0 :: x1 :: x2 :: x3 :: x4 :: x5 :: x6 :: x7 :: x8 :: x9 :: x10 :: some (.int (f a b)) :: σ) H1) = (fun y H1 => ipI f (.int a) y H1 fun z H2 => nx (x0 :: x1 :: x2 :: x3 :: x4 :: x5 :: x6 :: x7 :: x8 :: x9 :: x10 :: some z :: σ) H2) := by
    funext y H1
    exact propext ⟨fun ⟨b, e1, q⟩ => ⟨a, b, rfl, e1, q⟩, fun ⟨a', b, e0, e1, q⟩ => by cases e0; exact ⟨b, e1, q⟩⟩
  rw [e]
  exact propext ⟨fun ⟨x, e, q⟩ => by cases (show some (V.int a) = some _ from Option.some.inj e); exact q, fun q => ⟨_, rfl, q⟩⟩
theorem q_var12 {x0 x1 x2 x3 x4 x5 x6 x7 x8 x9 x10 x11 : Option V} {σ : L2.St} : tVar 12 (x0 :: x1 :: x2 :: x3 :: x4 :: x5 :: x6 :: x7 :: x8 :: x9 :: x10 :: x11 :: some v :: σ) H Q = Q v H := propext ⟨fun ⟨_, e, q⟩ => by cases (show some v = some _ from Option.some.inj e); exact q, fun q => ⟨v, rfl, q⟩⟩
theorem q_asg12 {x0 x1 x2 x3 x4 x5 x6 x7 x8 x9 x10 x11 : Option V} {o : Option V} {σ : L2.St} : tAsg te (gName 12) ⟨nx, rt, bk, ct⟩ (x0 :: x1 :: x2 :: x3 :: x4 :: x5 :: x6 :: x7 :: x8 :: x9 :: x10 :: x11 :: o :: σ) H = te (x0 :: x1 :: x2 :: x3 :: x4 :: x5 :: x6 :: x7 :: x8 :: x9 :: x10 :: x11 :: o :: σ) H fun x H1 => nx (x0 :: x1 :: x2 :: x3 :: x4 :: x5 :: x6 :: x7 :: x8 :: x9 :: x10 :: x11 :: some x :: σ) H1 := rfl
theorem q_gn12 {x0 x1 x2 x3 x4 x5 x6 x7 x8 x9 x10 x11 : Option V} {o : Option V} {σ : L2.St} {R : L2.St → Hp → Prop} : gName 12 v (x0 :: x1 :: x2 :: x3 :: x4 :: x5 :: x6 :: x7 :: x8 :: x9 :: x10 :: x11 :: o :: σ) H R = R (x0 :: x1 :: x2 :: x3 :: x4 :: x5 :: x6 :: x7 :: x8 :: x9 :: x10 :: x11 :: some v :: σ) H := rfl
theorem q_aug12 {x0 x1 x2 x3 x4 x5 x6 x7 x8 x9 x10 x11 : Option V} {f : Int → Int → Int} {a : Int} {σ : L2.St} : tAug 12 te (ipI f) ⟨nx, rt, bk, ct⟩ (x0 :: x1 :: x2 :: x3 :: x4 :: x5 :: x6 :: x7 :: x8 :: x9 :: x10 :: x11 :: some (.int a) :: σ) H = te (x0 :: x1 :: x2 :: x3 :: x4 :: x5 :: x6 :: x7 :: x8 :: x9 :: x10 :: x11 :: some (.int a) :: σ) H fun y H1 => ∃ b, y = .int b ∧ nx (x0 :: x1 :: x2 :: x3 :: x4 :: x5 :: x6 :: x7 :: x8 :: x9 :: x10 :: x11 :: some (.int (f a b)) :: σ) H1 := by
  have e : (fun y H1 => ∃ b, y = V.int b ∧ nx (x0 :: x1 :: x2 :: x3 :: x4 :: x5 :: x6 :: x7 :: x8 :: x9 :: x10 :: x11 :: some (.int (f a b)) :: σ) H1) = (fun y H1 => ipI f (.int a) y H1 fun z H2 => nx (x0 :: x1 :: x2 :: x3 :: x4 :: x5 :: x6 :: x7 :: x8 :: x9 :: x10 :: x11 :: some z :: σ) H2) := by
    funext y H1
    exact propext ⟨fun ⟨b, e1, q⟩ => ⟨a, b, rfl, e1, q⟩, fun ⟨a', b, e0, e1, q⟩ => by cases e0; exact ⟨b, e1, q⟩⟩
  rw [e]
  exact propext ⟨fun ⟨x, e, q⟩ => by cases (show some (V.int a) = some _ from Option.some.inj e); exact q, fun q => ⟨_, rfl, q⟩⟩
theorem q_var13 {x0 x1 x2 x3 x4 x5 x6 x7 x8 x9 x10 x11 x12 : Option V} {σ : L2.St} : tVar 13 (x0 :: x1 :: x2 :: x3 :: x4 :: x5 :: x6 :: x7 :: x8 :: x9 :: x10 :: x11 :: x12 :: some v :: σ) H Q = Q v H := propext ⟨fun ⟨_, e, q⟩ => by cases (show some v = some _ from Option.some.inj e); exact q, fun q => ⟨v, rfl, q⟩⟩
theorem q_asg13 {x0 x1 x2 x3 x4 x5 x6 x7 x8 x9 x10 x11 x12 : Option V} {o : Option V} {σ : L2.St} : tAsg te (gName 13) ⟨nx, rt, bk, ct⟩ (x0 :: x1 :: x2 :: x3 :: x4 :: x5 :: x6 :: x7 :: x8 :: x9 :: x10 :: x11 :: x12 :: o :: σ) H = te (x0 :: x1 :: x2 :: x3 :: x4 :: x5 :: x6 :: x7 :: x8 :: x9 :: x10 :: x11 :: x12 :: o :: σ) H fun x H1 => nx (x0 :: x1 :: x2 :: x3 :: x4 :: x5 :: x6 :: x7 :: x8 :: x9 :: x10 :: x11 :: x12 :: some x :: σ) H1 := rfl
theorem q_gn13 {x0 x1 x2 x3 x4 x5 x6 x7 x8 x9 x10 x11 x12 : Option V} {o : Option V} {σ : L2.St} {R : L2.St → Hp → Prop} : gName 13 v (x0 :: x1 :: x2 :: x3 :: x4 :: x5 :: x6 :: x7 :: x8 :: x9 :: x10 :: x11 :: x12 :: o :: σ) H R = R (x0 :: x1 :: x2 :: x3 :: x4 :: x5 :: x6 :: x7 :: x8 :: x9 :: x10 :: x11 :: x12 :: some v :: σ) H := rfl
theorem q_aug13 {x0 x1 x2 x3 x4 x5 x6 x7 x8 x9 x10 x11 x12 : Option V} {f : Int → Int → Int} {a : Int} {σ : L2.St} : tAug 13 te (ipI f) ⟨nx, rt, bk, ct⟩ (x0 :: x1 :: x2 :: x3 :: x4 :: x5 :: x6 :: x7 :: x8 :: x9 :: x10 :: x11 :: x12 :: some (.int a) :: σ) H = te (x0 :: x1 :: x2 :: x3 :: x4 :: x5 :: x6 :: x7 :: x8 :: x9 :: x10 :: x11 :: x12 :: some (.int a) :: σ) H fun y H1 => ∃ b, y = .int b ∧ nx (x0 :: x1 :: x2 :: x3 :: x4 :: x5 :: x6 :: x7 :: x8 :: x9 :: x10 :: x11 :: x12 :: some (.int (f a b)) :: σ) H1 := by
  have e : (fun y H1 => ∃ b, y = V.int b ∧ nx (x0 :: x1 :: x2 :: x3 :: x4 :: x5 :: x6 :: x7 :: x8 :: x9 :: x10 :: x11 :: x12 :: some (.int (f a b)) :: σ) H1) = (fun y H1 => ipI f (.int a) y H1 fun z H2 => nx (x0 :: x1 :: x2 :: x3 :: x4 :: x5 :: x6 :: x7 :: x8 :: x9 :: x10 :: x11 :: x12 :: some z :: σ) H2) := by
    funext y H1
    exact propext ⟨fun ⟨b, e1, q⟩ => ⟨a, b, rfl, e1, q⟩, fun ⟨a', b, e0, e1, q⟩ => by cases e0; exact ⟨b, e1, q⟩⟩
  rw [e]
  exact propext ⟨fun ⟨x, e, q⟩ => by cases (show some (V.int a) = some _ from Option.some.inj e); exact q, fun q => ⟨_, rfl, q⟩⟩
theorem q_var14 {x0 x1 x2 x3 x4 x5 x6 x7 x8 x9 x10 x11 x12 x13 : Option V} {σ : L2.St} : tVar 14 (x0 :: x1 :: x2 :: x3 :: x4 :: x5 :: x6 :: x7 :: x8 :: x9 :: x10 :: x11 :: x12 :: x13 :: some v :: σ) H Q = Q v H := propext ⟨fun ⟨_, e, q⟩ => by cases (show some v = some _ from Option.some.inj e); exact q, fun q => ⟨v, rfl, q⟩⟩
theorem q_asg14 {x0 x1 x2 x3 x4 x5 x6 x7 x8 x9 x10 x11 x12 x13 : Option V} {o : Option V} {σ : L2.St} : tAsg te (gName 14) ⟨nx, rt, bk, ct⟩ (x0 :: x1 :: x2 :: x3 :: x4 :: x5 :: x6 :: x7 :: x8 :: x9 :: x10 :: x11 :: x12 :: x13 :: o :: σ) H = te (x0 :: x1 :: x2 :: x3 :: x4 :: x5 :: x6 :: x7 :: x8 :: x9 :: x10 :: x11 :: x12 :: x13 :: o :: σ) H fun x H1 => nx (x0 :: x1 :: x2 :: x3 :: x4 :: x5 :: x6 :: x7 :: x8 :: x9 :: x10 :: x11 :: x12 :: x13 :: some x :: σ) H1 := rfl
theorem q_gn14 {x0 x1 x2 x3 x4 x5 x6 x7 x8 x9 x10 x11 x12 x13 : Option V} {o : Option V} {σ : L2.St} {R : L2.St → Hp → Prop} : gName 14 v (x0 :: x1 :: x2 :: x3 :: x4 :: x5 :: x6 :: x7 :: x8 :: x9 :: x10 :: x11 :: x12 :: x13 :: o :: σ) H R = R (x0 :: x1 :: x2 :: x3 :: x4 :: x5 :: x6 :: x7 :: x8 :: x9 :: x10 :: x11 :: x12 :: x13 :: some v :: σ) H := rfl
theorem q_aug14 {x0 x1 x2 x3 x4 x5 x6 x7 x8 x9 x10 x11 x12 x13 : Option V} {f : Int → Int → Int} {a : Int} {σ : L2.St} : tAug 14 te (ipI f) ⟨nx, rt, bk, ct⟩ (x0 :: x1 :: x2 :: x3 :: x4 :: x5 :: x6 :: x7 :: x8 :: x9 :: x10 :: x11 :: x12 :: x13 :: some (.int a) :: σ) H = te (x0 :: x1 :: x2 :: x3 :: x4 :: x5 :: x6 :: x7 :: x8 :: x9 :: x10 :: x11 :: x12 :: x13 :: some (.int a) :: σ) H fun y H1 => ∃ b, y = .int b ∧ nx (x0 :: x1 :: x2 :: x3 :: x4 :: x5 :: x6 :: x7 :: x8 :: x9 :: x10 :: x11 :: x12 :: x13 :: some (.int (f a b)) :: σ) H1 := by
  have e : (fun y H1 => ∃ b, y = V.int b ∧ nx (x0 :: x1 :: x2 :: x3 :: x4 :: x5 :: x6 :: x7 :: x8 :: x9 :: x10 :: x11 :: x12 :: x13 :: some (.int (f a b)) :: σ) H1) = (fun y H1 => ipI f (.int a) y H1 fun z H2 => nx (x0 :: x1 :: x2 :: x3 :: x4 :: x5 :: x6 :: x7 :: x8 :: x9 :: x10 :: x11 :: x12 :: x13 :: some z :: σ) H2) := by
    funext y H1
    exact propext ⟨fun ⟨b, e1, q⟩ => ⟨a, b, rfl, e1, q⟩, fun ⟨a', b, e0, e1, q⟩ => by cases e0; exact ⟨b, e1, q⟩⟩
  rw [e]
  exact propext ⟨fun ⟨x, e, q⟩ => by cases (show some (V.int a) = some _ from Option.some.inj e); exact q, fun q => ⟨_, rfl, q⟩⟩
theorem q_var15 {x0 x1 x2 x3 x4 x5 x6 x7 x8 x9 x10 x11 x12 x13 x14 : Option V} {σ : L2.St} : tVar 15 (x0 :: x1 :: x2 :: x3 :: x4 :: x5 :: x6 :: x7 :: x8 :: x9 :: x10 :: x11 :: x12 :: x13 :: x14 :: some v :: σ) H Q = Q v H := propext ⟨fun ⟨_, e, q⟩ => by cases (show some v = some _ from Option.some.inj e); exact q, fun q => ⟨v, rfl, q⟩⟩
theorem q_asg15 {x0 x1 x2 x3 x4 x5 x6 x7 x8 x9 x10 x11 x12 x13 x14 : Option V} {o : Option V} {σ : L2.St} : tAsg te (gName 15) ⟨nx, rt, bk, ct⟩ (x0 :: x1 :: x2 :: x3 :: x4 :: x5 :: x6 :: x7 :: x8 :: x9 :: x10 :: x11 :: x12 :: x13 :: x14 :: o :: σ) H = te (x0 :: x1 :: x2 :: x3 :: x4 :: x5 :: x6 :: x7 :: x8 :: x9 :: x10 :: x11 :: x12 :: x13 :: x14 :: o :: σ) H fun x H1 => nx (x0 :: x1 :: x2 :: x3 :: x4 :: x5 :: x6 :: x7 :: x8 :: x9 :: x10 :: x11 :: x12 :: x13 :: x14 :: some x :: σ) H1 := rfl
theorem q_gn15 {x0 x1 x2 x3 x4 x5 x6 x7 x8 x9 x10 x11 x12 x13 x14 : Option V} {o : Option V} {σ : L2.St} {R : L2.St → Hp → Prop} : gName 15 v (x0 :: x1 :: x2 :: x3 :: x4 :: x5 :: x6 :: x7 :: x8 :: x9 :: x10 :: x11 :: x12 :: x13 :: x14 :: o :: σ) H R = R (x0 :: x1 :: x2 :: x3 :: x4 :: x5 :: x6 :: x7 :: x8 :: x9 :: x10 :: x11 :: x12 :: x13 :: x14 :: some v :: σ) H := rfl
theorem q_aug15 {x0 x1 x2 x3 x4 x5 x6 x7 x8 x9 x10 x11 x12 x13 x14 : Option V} {f : Int → Int → Int} {a : Int} {σ : L2.St} : tAug 15 te (ipI f) ⟨nx, rt, bk, ct⟩ (x0 :: x1 :: x2 :: x3 :: x4 :: x5 :: x6 :: x7 :: x8 :: x9 :: x10 :: x11 :: x12 :: x13 :: x14 :: some (.int a) :: σ) H = te (x0 :: x1 :: x2 :: x3 :: x4 :: x5 :: x6 :: x7 :: x8 :: x9 :: x10 :: x11 :: x12 :: x13 :: x14 :: some (.int a) :: σ) H fun y H1 => ∃ b, y = .int b ∧ nx (x0 :: x1 :: x2 :: x3 :: x4 :: x5 :: x6 :: x7 :: x8 :: x9 :: x10 :: x11 :: x12 :: x13 :: x14 :: some (.int (f a b)) :: σ) H1 := by
  have e : (fun y H1 => ∃ b, y = V.int b ∧ nx (x0 :: x1 :: x2 :: x3 :: x4 :: x5 :: x6 :: x7 :: x8 :: x9 :: x10 :: x11 :: x12 :: x13 :: x14 :: some (.int (f a b)) :: σ) H1) = (fun y H1 => ipI f (.int a) y H1 fun z H2 => nx (x0 :: x1 :: x2 :: x3 :: x4 :: x5 :: x6 :: x7 :: x8 :: x9 :: x10 :: x11 :: x12 :: x13 :: x14 :: some z :: σ) H2) := by
    funext y H1
    exact propext ⟨fun ⟨b, e1, q⟩ => ⟨a, b, rfl, e1, q⟩, fun ⟨a', b, e0, e1, q⟩ => by cases e0; exact ⟨b, e1, q⟩⟩
  rw [e]
  exact propext ⟨fun ⟨x, e, q⟩ => by cases (show some (V.int a) = some _ from Option.some.inj e); exact q, fun q => ⟨_, rfl, q⟩⟩
theorem q_var16 {x0 x1 x2 x3 x4 x5 x6 x7 x8 x9 x10 x11 x12 x13 x14 x15 : Option V} {σ : L2.St} : tVar 16 (x0 :: x1 :: x2 :: x3 :: x4 :: x5 :: x6 :: x7 :: x8 :: x9 :: x10 :: x11 :: x12 :: x13 :: x14 :: x15 :: some v :: σ) H Q = Q v H := propext ⟨fun ⟨_, e, q⟩ => by cases (show some v = some _ from Option.some.inj e); exact q, fun q => ⟨v, rfl, q⟩⟩
theorem q_asg16 {x0 x1 x2 x3 x4 x5 x6 x7 x8 x9 x10 x11 x12 x13 x14 x15 : Option V} {o : Option V} {σ : L2.St} : tAsg te (gName 16) ⟨nx, rt, bk, ct⟩ (x0 :: x1 :: x2 :: x3 :: x4 :: x5 :: x6 :: x7 :: x8 :: x9 :: x10 :: x11 :: x12 :: x13 :: x14 :: x15 :: o :: σ) H = te (x0 :: x1 :: x2 :: x3 :: x4 :: x5 :: x6 :: x7 :: x8 :: x9 :: x10 :: x11 :: x12 :: x13 :: x14 :: x15 :: o :: σ) H fun x H1 => nx (x0 :: x1 :: x2 :: x3 :: x4 :: x5 :: x6 :: x7 :: x8 :: x9 :: x10 :: x11 :: x12 :: x13 :: x14 :: x15 :: some x :: σ) H1 := rfl
theorem q_gn16 {x0 x1 x2 x3 x4 x5 x6 x7 x8 x9 x10 x11 x12 x13 x14 x15 : Option V} {o : Option V} {σ : L2.St} {R : L2.St → Hp → Prop} : gName 16 v (x0 :: x1 :: x2 :: x3 :: x4 :: x5 :: x6 :: x7 :: x8 :: x9 :: x10 :: x11 :: x12 :: x13 :: x14 :: x15 :: o :: σ) H R = R (x0 :: x1 :: x2 :: x3 :: x4 :: x5 :: x6 :: x7 :: x8 :: x9 :: x10 :: x11 :: x12 :: x13 :: x14 :: x15 :: some v :: σ) H := rfl
theorem q_aug16 {x0 x1 x2 x3 x4 x5 x6 x7 x8 x9 x10 x11 x12 x13 x14 x15 : Option V} {f : Int → Int → Int} {a : Int} {σ : L2.St} : tAug 16 te (ipI f) ⟨nx, rt, bk, ct⟩ (x0 :: x1 :: x2 :: x3 :: x4 :: x5 :: x6 :: x7 :: x8 :: x9 :: x10 :: x11 :: x12 :: x13 :: x14 :: x15 :: some (.int a) :: σ) H = te (x0 :: x1 :: x2 :: x3 :: x4 :: x5 :: x6 :: x7 :: x8 :: x9 :: x10 :: x11 :: x12 :: x13 :: x14 :: x15 :: some (.int a) :: σ) H fun y H1 => ∃ b, y = .int b ∧ nx (x0 :: x1 :: x2 :: x3 :: x4 :: x5 :: x6 :: x7 :: x8 :: x9 :: x10 :: x11 :: x12 :: x13 :: x14 :: x15 :: some (.int (f a b)) :: σ) H1 := by
  have e : (fun y H1 => ∃ b, y = V.int b ∧ nx (x0 :: x1 :: x2 :: x3 :: x4 :: x5 :: x6 :: x7 :: x8 :: x9 :: x10 :: x11 :: x12 :: x13 :: x14 :: x15 :: some (.int (f a b)) :: σ) H1) = (fun y H1 => ipI f (.int a) y H1 fun z H2 => nx (x0 :: x1 :: x2 :: x3 :: x4 :: x5 :: x6 :: x7 :: x8 :: x9 :: x10 :: x11 :: x12 :: x13 :: x14 :: x15 :: some z :: σ) H2) := by
    funext y H1
    exact propext ⟨fun ⟨b, e1, q⟩ => ⟨a, b, rfl, e1, q⟩, fun ⟨a', b, e0, e1, q⟩ => by cases e0; exact ⟨b, e1, q⟩⟩
  rw [e]
  exact propext ⟨fun ⟨x, e, q⟩ => by cases (show some (V.int a) = some _ from Option.some.inj e); exact q, fun q => ⟨_, rfl, q⟩⟩
theorem q_var17 {x0 x1 x2 x3 x4 x5 x6 x7 x8 x9 x10 x11 x12 x13 x14 x15 x16 : Option V} {σ : L2.St} : tVar 17 (x0 :: x1 :: x2 :: x3 :: x4 :: x5 :: x6 :: x7 :: x8 :: x9 :: x10 :: x11 :: x12 :: x13 :: x14 :: x15 :: x16 :: some v :: σ) H Q = Q v H := propext ⟨fun ⟨_, e, q⟩ => by cases (show some v = some _ from Option.some.inj e); exact q, fun q => ⟨v, rfl, q⟩⟩
theorem q_asg17 {x0 x1 x2 x3 x4 x5 x6 x7 x8 x9 x10 x11 x12 x13 x14 x15 x16 : Option V} {o : Option V} {σ : L2.St} : tAsg te (gName 17) ⟨nx, rt, bk, ct⟩ (x0 :: x1 :: x2 :: x3 :: x4 :: x5 :: x6 :: x7 :: x8 :: x9 :: x10 :: x11 :: x12 :: x13 :: x14 :: x15 :: x16 :: o :: σ) H = te (x0 :: x1 :: x2 :: x3 :: x4 :: x5 :: x6 :: x7 :: x8 :: x9 :: x10 :: x11 :: x12 :: x13 :: x14 :: x15 :: x16 :: o :: σ) H fun x H1 => nx (x0 :: x1 :: x2 :: x3 :: x4 :: x5 :: x6 :: x7 :: x8 :: x9 :: x10 :: x11 :: x12 :: x13 :: x14 :: x15 :: x16 :: some x :: σ) H1 := rfl
theorem q_gn17 {x0 x1 x2 x3 x4 x5 x6 x7 x8 x9 x10 x11 x12 x13 x14 x15 x16 : Option V} {o : Option V} {σ : L2.St} {R : L2.St → Hp → Prop} : gName 17 v (x0 :: x1 :: x2 :: x3 :: x4 :: x5 :: x6 :: x7 :: x8 :: x9 :: x10 :: x11 :: x12 :: x13 :: x14 :: x15 :: x16 :: o :: σ) H R = R (x0 :: x1 :: x2 :: x3 :: x4 :: x5 :: x6 :: x7 :: x8 :: x9 :: x10 :: x11 :: x12 :: x13 :: x14 :: x15 :: x16 :: some v :: σ) H := rfl
theorem q_aug17 {x0 x1 x2 x3 x4 x5 x6 x7 x8 x9 x10 x11 x12 x13 x14 x15 x16 : Option V} {f : Int → Int → Int} {a : Int} {σ : L2.St} : tAug 17 te (ipI f) ⟨nx, rt, bk, ct⟩ (x0 :: x1 :: x2 :: x3 :: x4 :: x5 :: x6 :: x7 :: x8 :: x9 :: x10 :: x11 :: x12 :: x13 :: x14 :: x15 :: x16 :: some (.int a) :: σ) H = te (x0 :: x1 :: x2 :: x3 :: x4 :: x5 :: x6 :: x7 :: x8 :: x9 :: x10 :: x11 :: x12 :: x13 :: x14 :: x15 :: x16 :: some (.int a) :: σ) H fun y H1 => ∃ b, y = .int b ∧ nx (x0 :: x1 :: x2 :: x3 :: x4 :: x5 :: x6 :: x7 :: x8 :: x9 :: x10 :: x11 :: x12 :: x13 :: x14 :: x15 :: x16 :: some (.int (f a b)) :: σ) H1 := by
  have e : (fun y H1 => ∃ b, y = V.int b ∧ nx (x0 :: x1 :: x2 :: x3 :: x4 :: x5 :: x6 :: x7 :: x8 :: x9 :: x10 :: x11 :: x12 :: x13 :: x14 :: x15 :: x16 :: some (.int (f a b)) :: σ) H1) = (fun y H1 => ipI f (.int a) y H1 fun z H2 => nx (x0 :: x1 :: x2 :: x3 :: x4 :: x5 :: x6 :: x7 :: x8 :: x9 :: x10 :: x11 :: x12 :: x13 :: x14 :: x15 :: x16 :: some z :: σ) H2) := by
    funext y H1
    exact propext ⟨fun ⟨b, e1, q⟩ => ⟨a, b, rfl, e1, q⟩, fun ⟨a', b, e0, e1, q⟩ => by cases e0; exact ⟨b, e1, q⟩⟩
  rw [e]
  exact propext ⟨fun ⟨x, e, q⟩ => by cases (show some (V.int a) = some _ from Option.some.inj e); exact q, fun q => ⟨_, rfl, q⟩⟩
theorem q_var18 {x0 x1 x2 x3 x4 x5 x6 x7 x8 x9 x10 x11 x12 x13 x14 x15 x16 x17 : Option V} {σ : L2.St} : tVar 18 (x0 :: x1 :: x2 :: x3 :: x4 :: x5 :: x6 :: x7 :: x8 :: x9 :: x10 :: x11 :: x12 :: x13 :: x14 :: x15 :: x16 :: x17 :: some v :: σ) H Q = Q v H := propext ⟨fun ⟨_, e, q⟩ => by cases (show some v = some _ from Option.some.inj e); exact q, fun q => ⟨v, rfl, q⟩⟩
theorem q_asg18 {x0 x1 x2 x3 x4 x5 x6 x7 x8 x9 x10 x11 x12 x13 x14 x15 x16 x17 : Option V} {o : Option V} {σ : L2.St} : tAsg te (gName 18) ⟨nx, rt, bk, ct⟩ (x0 :: x1 :: x2 :: x3 :: x4 :: x5 :: x6 :: x7 :: x8 :: x9 :: x10 :: x11 :: x12 :: x13 :: x14 :: x15 :: x16 :: x17 :: o :: σ) H = te (x0 :: x1 :: x2 :: x3 :: x4 :: x5 :: x6 :: x7 :: x8 :: x9 :: x10 :: x11 :: x12 :: x13 :: x14 :: x15 :: x16 :: x17 :: o :: σ) H fun x H1 => nx (x0 :: x1 :: x2 :: x3 :: x4 :: x5 :: x6 :: x7 :: x8 :: x9 :: x10 :: x11 :: x12 :: x13 :: x14 :: x15 :: x16 :: x17 :: some x :: σ) H1 := rfl
theorem q_gn18 {x0 x1 x2 x3 x4 x5 x6 x7 x8 x9 x10 x11 x12 x13 x14 x15 x16 x17 : Option V} {o : Option V} {σ : L2.St} {R : L2.St → Hp → Prop} : gName 18 v (x0 :: x1 :: x2 :: x3 :: x4 :: x5 :: x6 :: x7 :: x8 :: x9 :: x10 :: x11 :: x12 :: x13 :: x14 :: x15 :: x16 :: x17 :: o :: σ) H R = R (x0 :: x1 :: x2 :: x3 :: x4 :: x5 :: x6 :: x7 :: x8 :: x9 :: x10 :: x11 :: x12 :: x13 :: x14 :: x15 :: x16 :: x17 :: some v :: σ) H := rfl
theorem q_aug18 {x0 x1 x2 x3 x4 x5 x6 x7 x8 x9 x10 x11 x12 x13 x14 x15 x16 x17 : Option V} {f : Int → Int → Int} {a : Int} {σ : L2.St} : tAug 18 te (ipI f) ⟨nx, rt, bk, ct⟩ (x0 :: x1 :: x2 :: x3 :: x4 :: x5 :: x6 :: x7 :: x8 :: x9 :: x10 :: x11 :: x12 :: x13 :: x14 :: x15 :: x16 :: x17 :: some (.int a) :: σ) H = te (x0 :: x1 :: x2 :: x3 :: x4 :: x5 :: x6 :: x7 :: x8 :: x9 :: x10 :: x11 :: x12 :: x13 :: x14 :: x15 :: x16 :: x17 :: some (.int a) :: σ) H fun y H1 => ∃ b, y = .int b ∧ nx (x0 :: x1 :: x2 :: x3 :: x4 :: x5 :: x6 :: x7 :: x8 :: x9 :: x10 :: x11 :: x12 :: x13 :: x14 :: x15 :: x16 :: x17 :: some (.int (f a b)) :: σ) H1 := by
  have e : (fun y H1 => ∃ b, y = V.int b ∧ nx (x0 :: x1 :: x2 :: x3 :: x4 :: x5 :: x6 :: x7 :: x8 :: x9 :: x10 :: x11 :: x12 :: x13 :: x14 :: x15 :: x16 :: x17 :: some (.int (f a b)) :: σ) H1) = (fun y H1 => ipI f (.int a) y H1 fun z H2 => nx (x0 :: x1 :: x2 :: x3 :: x4 :: x5 :: x6 :: x7 :: x8 :: x9 :: x10 :: x11 :: x12 :: x13 :: x14 :: x15 :: x16 :: x17 :: some z :: σ) H2) := by
    funext y H1
    exact propext ⟨fun ⟨b, e1, q⟩ => ⟨a, b, rfl, e1, q⟩, fun ⟨a', b, e0, e1, q⟩ => by cases e0; exact ⟨b, e1, q⟩⟩
  rw [e]
  exact propext ⟨fun ⟨x, e, q⟩ => by cases (show some (V.int a) = some _ from Option.some.inj e); exact q, fun q => ⟨_, rfl, q⟩⟩
theorem q_var19 {x0 x1 x2 x3 x4 x5 x6 x7 x8 x9 x10 x11 x12 x13 x14 x15 x16 x17 x18 : Option V} {σ : L2.St} : tVar 19 (x0 :: x1 :: x2 :: x3 :: x4 :: x5 :: x6 :: x7 :: x8 :: x9 :: x10 :: x11 :: x12 :: x13 :: x14 :: x15 :: x16 :: x17 :: x18 :: some v :: σ) H Q = Q v H := propext ⟨fun ⟨_, e, q⟩ => by cases (show some v = some _ from Option.some.inj e); exact q, fun q => ⟨v, rfl, q⟩⟩
theorem q_asg19 {x0 x1 x2 x3 x4 x5 x6 x7 x8 x9 x10 x11 x12 x13 x14 x15 x16 x17 x18 : Option V} {o : Option V} {σ : L2.St} : tAsg te (gName 19) ⟨nx, rt, bk, ct⟩ (x0 :: x1 :: x2 :: x3 :: x4 :: x5 :: x6 :: x7 :: x8 :: x9 :: x10 :: x11 :: x12 :: x13 :: x14 :: x15 :: x16 :: x17 :: x18 :: o :: σ) H = te (x0 :: x1 :: x2 :: x3 :: x4 :: x5 :: x6 :: x7 :: x8 :: x9 :: x10 :: x11 :: x12 :: x13 :: x14 :: x15 :: x16 :: x17 :: x18 :: o :: σ) H fun x H1 => nx (x0 :: x1 :: x2 :: x3 :: x4 :: x5 :: x6 :: x7 :: x8 :: x9 :: x10 :: x11 :: x12 :: x13 :: x14 :: x15 :: x16 :: x17 :: x18 :: some x :: σ) H1 := rfl
theorem q_gn19 {x0 x1 x2 x3 x4 x5 x6 x7 x8 x9 x10 x11 x12 x13 x14 x15 x16 x17 x18 : Option V} {o : Option V} {σ : L2.St} {R : L2.St → Hp → Prop} : gName 19 v (x0 :: x1 :: x2 :: x3 :: x4 :: x5 :: x6 :: x7 :: x8 :: x9 :: x10 :: x11 :: x12 :: x13 :: x14 :: x15 :: x16 :: x17 :: x18 :: o :: σ) H R = R (x0 :: x1 :: x2 :: x3 :: x4 :: x5 :: x6 :: x7 :: x8 :: x9 :: x10 :: x11 :: x12 :: x13 :: x14 :: x15 :: x16 :: x17 :: x18 :: some v :: σ) H := rfl
theorem q_aug19 {x0 x1 x2 x3 x4 x5 x6 x7 x8 x9 x10 x11 x12 x13 x14 x15 x16 x17 x18 : Option V} {f : Int → Int → Int} {a : Int} {σ : L2.St} : tAug 19 te (ipI f) ⟨nx, rt, bk, ct⟩ (x0 :: x1 :: x2 :: x3 :: x4 :: x5 :: x6 :: x7 :: x8 :: x9 :: x10 :: x11 :: x12 :: x13 :: x14 :: x15 :: x16 :: x17 :: x18 :: some (.int a) :: σ) H = te (x0 :: x1 :: x2 :: x3 :: x4 :: x5 :: x6 :: x7 :: x8 :: x9 :: x10 :: x11 :: x12 :: x13 :: x14 :: x15 :: x16 :: x17 :: x18 :: some (.int a) :: σ) H fun y H1 => ∃ b, y = .int b ∧ nx (x0 :: x1 :: x2 :: x3 :: x4 :: x5 :: x6 :: x7 :: x8 :: x9 :: x10 :: x11 :: x12 :: x13 :: x14 :: x15 :: x16 :: x17 :: x18 :: some (.int (f a b)) :: σ) H1 := by
  have e : (fun y H1 => ∃ b, y = V.int b ∧ nx (x0 :: x1 :: x2 :: x3 :: x4 :: x5 :: x6 :: x7 :: x8 :: x9 :: x10 :: x11 :: x12 :: x13 :: x14 :: x15 :: x16 :: x17 :: x18 :: some (.int (f a b)) :: σ) H1) = (fun y H1 => ipI f (.int a) y H1 fun z H2 => nx (x0 :: x1 :: x2 :: x3 :: x4 :: x5 :: x6 :: x7 :: x8 :: x9 :: x10 :: x11 :: x12 :: x13 :: x14 :: x15 :: x16 :: x17 :: x18 :: some z :: σ) H2) := by
    funext y H1
    exact propext ⟨fun ⟨b, e1, q⟩ => ⟨a, b, rfl, e1, q⟩, fun ⟨a', b, e0, e1, q⟩ => by cases e0; exact ⟨b, e1, q⟩⟩
  rw [e]
  exact propext ⟨fun ⟨x, e, q⟩ => by cases (show some (V.int a) = some _ from Option.some.inj e); exact q, fun q => ⟨_, rfl, q⟩⟩
theorem q_var20 {x0 x1 x2 x3 x4 x5 x6 x7 x8 x9 x10 x11 x12 x13 x14 x15 x16 x17 x18 x19 : Option V} {σ : L2.St} : tVar 20 (x0 :: x1 :: x2 :: x3 :: x4 :: x5 :: x6 :: x7 :: x8 :: x9 :: x10 :: x11 :: x12 :: x13 :: x14 :: x15 :: x16 :: x17 :: x18 :: x19 :: some v :: σ) H Q = Q v H := propext ⟨fun ⟨_, e, q⟩ => by cases (show some v = some _ from Option.some.inj e); exact q, fun q => ⟨v, rfl, q⟩⟩
theorem q_asg20 {x0 x1 x2 x3 x4 x5 x6 x7 x8 x9 x10 x11 x12 x13 x14 x15 x16 x17 x18 x19 : Option V} {o : Option V} {σ : L2.St} : tAsg te (gName 20) ⟨nx, rt, bk, ct⟩ (x0 :: x1 :: x2 :: x3 :: x4 :: x5 :: x6 :: x7 :: x8 :: x9 :: x10 :: x11 :: x12 :: x13 :: x14 :: x15 :: x16 :: x17 :: x18 :: x19 :: o :: σ) H = te (x0 :: x1 :: x2 :: x3 :: x4 :: x5 :: x6 :: x7 :: x8 :: x9 :: x10 :: x11 :: x12 :: x13 :: x14 :: x15 :: x16 :: x17 :: x18 :: x19 :: o :: σ) H fun x H1 => nx (x0 :: x1 :: x2 :: x3 :: x4 :: x5 :: x6 :: x7 :: x8 :: x9 :: x10 :: x11 :: x12 :: x13 :: x14 :: x15 :: x16 :: x17 :: x18 :: x19 :: some x :: σ) H1 := rfl
theorem q_gn20 {x0 x1 x2 x3 x4 x5 x6 x7 x8 x9 x10 x11 x12 x13 x14 x15 x16 x17 x18 x19 : Option V} {o : Option V} {σ : L2.St} {R : L2.St → Hp → Prop} : gName 20 v (x0 :: x1 :: x2 :: x3 :: x4 :: x5 :: x6 :: x7 :: x8 :: x9 :: x10 :: x11 :: x12 :: x13 :: x14 :: x15 :: x16 :: x17 :: x18 :: x19 :: o :: σ) H R = R (x0 :: x1 :: x2 :: x3 :: x4 :: x5 :: x6 :: x7 :: x8 :: x9 :: x10 :: x11 :: x12 :: x13 :: x14 :: x15 :: x16 :: x17 :: x18 :: x19 :: some v :: σ) H := rfl
theorem q_aug20 {x0 x1 x2 x3 x4 x5 x6 x7 x8 x9 x10 x11 x12 x13 x14 x15 x16 x17 x18 x19 : Option V} {f : Int → Int → Int} {a : Int} {σ : L2.St} : tAug 20 te (ipI f) ⟨nx, rt, bk, ct⟩ (x0 :: x1 :: x2 :: x3 :: x4 :: x5 :: x6 :: x7 :: x8 :: x9 :: x10 :: x11 :: x12 :: x13 :: x14 :: x15 :: x16 :: x17 :: x18 :: x19 :: some (.int a) :: σ) H = te (x0 :: x1 :: x2 :: x3 :: x4 :: x5 :: x6 :: x7 :: x8 :: x9 :: x10 :: x11 :: x12 :: x13 :: x14 :: x15 :: x16 :: x17 :: x18 :: x19 :: some (.int a) :: σ) H fun y H1 => ∃ b, y = .int b ∧ nx (x0 :: x1 :: x2 :: x3 :: x4 :: x5 :: x6 :: x7 :: x8 :: x9 :: x10 :: x11 :: x12 :: x13 :: x14 :: x15 :: x16 :: x17 :: x18 :: x19 :: some (.int (f a b)) :: σ) H1 := by
  have e : (fun y H1 => ∃ b, y = V.int b ∧ nx (x0 :: x1 :: x2 :: x3 :: x4 :: x5 :: x6 :: x7 :: x8 :: x9 :: x10 :: x11 :: x12 :: x13 :: x14 :: x15 :: x16 :: x17 :: x18 :: x19 :: some (.int (f a b)) :: σ) H1) = (fun y H1 => ipI f (.int a) y H1 fun z H2 => nx (x0 :: x1 :: x2 :: x3 :: x4 :: x5 :: x6 :: x7 :: x8 :: x9 :: x10 :: x11 :: x12 :: x13 :: x14 :: x15 :: x16 :: x17 :: x18 :: x19 :: some z :: σ) H2) := by
    funext y H1
    exact propext ⟨fun ⟨b, e1, q⟩ => ⟨a, b, rfl, e1, q⟩, fun ⟨a', b, e0, e1, q⟩ => by cases e0; exact ⟨b, e1, q⟩⟩
  rw [e]
  exact propext ⟨fun ⟨x, e, q⟩ => by cases (show some (V.int a) = some _ from Option.some.inj e); exact q, fun q => ⟨_, rfl, q⟩⟩
theorem q_var21 {x0 x1 x2 x3 x4 x5 x6 x7 x8 x9 x10 x11 x12 x13 x14 x15 x16 x17 x18 x19 x20 : Option V} {σ : L2.St} : tVar 21 (x0 :: x1 :: x2 :: x3 :: x4 :: x5 :: x6 :: x7 :: x8 :: x9 :: x10 :: x11 :: x12 :: x13 :: x14 :: x15 :: x16 :: x17 :: x18 :: x19 :: x20 :: some v :: σ) H Q = Q v H := propext ⟨fun ⟨_, e, q⟩ => by cases (show some v = some _ from Option.some.inj e); exact q, fun q => ⟨v, rfl, q⟩⟩
theorem q_asg21 {x0 x1 x2 x3 x4 x5 x6 x7 x8 x9 x10 x11 x12 x13 x14 x15 x16 x17 x18 x19 x20 : Option V} {o : Option V} {σ : L2.St} : tAsg te (gName 21) ⟨nx, rt, bk, ct⟩ (x0 :: x1 :: x2 :: x3 :: x4 :: x5 :: x6 :: x7 :: x8 :: x9 :: x10 :: x11 :: x12 :: x13 :: x14 :: x15 :: x16 :: x17 :: x18 :: x19 :: x20 :: o :: σ) H = te (x0 :: x1 :: x2 :: x3 :: x4 :: x5 :: x6 :: x7 :: x8 :: x9 :: x10 :: x11 :: x12 :: x13 :: x14 :: x15 :: x16 :: x17 :: x18 :: x19 :: x20 :: o :: σ) H fun x H1 => nx (x0 :: x1 :: x2 :: x3 :: x4 :: x5 :: x6 :: x7 :: x8 :: x9 :: x10 :: x11 :: x12 :: x13 :: x14 :: x15 :: x16 :: x17 :: x18 :: x19 :: x20 :: some x :: σ) H1 := rfl
theorem q_gn21 {x0 x1 x2 x3 x4 x5 x6 x7 x8 x9 x10 x11 x12 x13 x14 x15 x16 x17 x18 x19 x20 : Option V} {o : Option V} {σ : L2.St} {R : L2.St → Hp → Prop} : gName 21 v (x0 :: x1 :: x2 :: x3 :: x4 :: x5 :: x6 :: x7 :: x8 :: x9 :: x10 :: x11 :: x12 :: x13 :: x14 :: x15 :: x16 :: x17 :: x18 :: x19 :: x20 :: o :: σ) H R = R (x0 :: x1 :: x2 :: x3 :: x4 :: x5 :: x6 :: x7 :: x8 :: x9 :: x10 :: x11 :: x12 :: x13 :: x14 :: x15 :: x16 :: x17 :: x18 :: x19 :: x20 :: some v :: σ) H := rfl
theorem q_aug21 {x0 x1 x2 x3 x4 x5 x6 x7 x8 x9 x10 x11 x12 x13 x14 x15 x16 x17 x18 x19 x20 : Option V} {f : Int → Int → Int} {a : Int} {σ : L2.St} : tAug 21 te (ipI f) ⟨nx, rt, bk, ct⟩ (x0 :: x1 :: x2 :: x3 :: x4 :: x5 :: x6 :: x7 :: x8 :: x9 :: x10 :: x11 :: x12 :: x13 :: x14 :: x15 :: x16 :: x17 :: x18 :: x19 :: x20 :: some (.int a) :: σ) H = te (x0 :: x1 :: x2 :: x3 :: x4 :: x5 :: x6 :: x7 :: x8 :: x9 :: x10 :: x11 :: x12 :: x13 :: x14 :: x15 :: x16 :: x17 :: x18 :: x19 :: x20 :: some (.int a) :: σ) H fun y H1 => ∃ b, y = .int b ∧ nx (x0 :: x1 :: x2 :: x3 :: x4 :: x5 :: x6 :: x7 :: x8 :: x9 :: x10 :: x11 :: x12 :: x13 :: x14 :: x15 :: x16 :: x17 :: x18 :: x19 :: x20 :: some (.int (f a b)) :: σ) H1 := by
  have e : (fun y H1 => ∃ b, y = V.int b ∧ nx (x0 :: x1 :: x2 :: x3 :: x4 :: x5 :: x6 :: x7 :: x8 :: x9 :: x10 :: x11 :: x12 :: x13 :: x14 :: x15 :: x16 :: x17 :: x18 :: x19 :: x20 :: some (.int (f a b)) :: σ) H1) = (fun y H1 => ipI f (.int a) y H1 fun z H2 => nx (x0 :: x1 :: x2 :: x3 :: x4 :: x5 :: x6 :: x7 :: x8 :: x9 :: x10 :: x11 :: x12 :: x13 :: x14 :: x15 :: x16 :: x17 :: x18 :: x19 :: x20 :: some z :: σ) H2) := by
    funext y H1
    exact propext ⟨fun ⟨b, e1, q⟩ => ⟨a, b, rfl, e1, q⟩, fun ⟨a', b, e0, e1, q⟩ => by cases e0; exact ⟨b, e1, q⟩⟩
  rw [e]
  exact propext ⟨fun ⟨x, e, q⟩ => by cases (show some (V.int a) = some _ from Option.some.inj e); exact q, fun q => ⟨_, rfl, q⟩⟩
theorem q_var22 {x0 x1 x2 x3 x4 x5 x6 x7 x8 x9 x10 x11 x12 x13 x14 x15 x16 x17 x18 x19 x20 x21 : Option V} {σ : L2.St} : tVar 22 (x0 :: x1 :: x2 :: x3 :: x4 :: x5 :: x6 :: x7 :: x8 :: x9 :: x10 :: x11 :: x12 :: x13 :: x14 :: x15 :: x16 :: x17 :: x18 :: x19 :: x20 :: x21 :: some v :: σ) H Q = Q v H := propext ⟨fun ⟨_, e, q⟩ => by cases (show some v = some _ from Option.some.inj e); exact q, fun q => ⟨v, rfl, q⟩⟩
theorem q_asg22 {x0 x1 x2 x3 x4 x5 x6 x7 x8 x9 x10 x11 x12 x13 x14 x15 x16 x17 x18 x19 x20 x21 : Option V} {o : Option V} {σ : L2.St} : tAsg te (gName 22) ⟨nx, rt, bk, ct⟩ (x0 :: x1 :: x2 :: x3 :: x4 :: x5 :: x6 :: x7 :: x8 :: x9 :: x10 :: x11 :: x12 :: x13 :: x14 :: x15 :: x16 :: x17 :: x18 :: x19 :: x20 :: x21 :: o :: σ) H = te (x0 :: x1 :: x2 :: x3 :: x4 :: x5 :: x6 :: x7 :: x8 :: x9 :: x10 :: x11 :: x12 :: x13 :: x14 :: x15 :: x16 :: x17 :: x18 :: x19 :: x20 :: x21 :: o :: σ) H fun x H1 => nx (x0 :: x1 :: x2 :: x3 :: x4 :: x5 :: x6 :: x7 :: x8 :: x9 :: x10 :: x11 :: x12 :: x13 :: x14 :: x15 :: x16 :: x17 :: x18 :: x19 :: x20 :: x21 :: some x :: σ) H1 := rfl
theorem q_gn22 {x0 x1 x2 x3 x4 x5 x6 x7 x8 x9 x10 x11 x12 x13 x14 x15 x16 x17 x18 x19 x20 x21 : Option V} {o : Option V} {σ : L2.St} {R : L2.St → Hp → Prop} : gName 22 v (x0 :: x1 :: x2 :: x3 :: x4 :: x5 :: x6 :: x7 :: x8 :: x9 :: x10 :: x11 :: x12 :: x13 :: x14 :: x15 :: x16 :: x17 :: x18 :: x19 :: x20 :: x21 :: o :: σ) H R = R (x0 :: x1 :: x2 :: x3 :: x4 :: x5 :: x6 :: x7 :: x8 :: x9 :: x10 :: x11 :: x12 :: x13 :: x14 :: x15 :: x16 :: x17 :: x18 :: x19 :: x20 :: x21 :: some v :: σ) H := rfl
theorem q_aug22 {x0 x1 x2 x3 x4 x5 x6 x7 x8 x9 x10 x11 x12 x13 x14 x15 x16 x17 x18 x19 x20 x21 : Option V} {f : Int → Int → Int} {a : Int} {σ : L2.St} : tAug 22 te (ipI f) ⟨nx, rt, bk, ct⟩ (x0 :: x1 :: x2 :: x3 :: x4 :: x5 :: x6 :: x7 :: x8 :: x9 :: x10 :: x11 :: x12 :: x13 :: x14 :: x15 :: x16 :: x17 :: x18 :: x19 :: x20 :: x21 :: some (.int a) :: σ) H = te (x0 :: x1 :: x2 :: x3 :: x4 :: x5 :: x6 :: x7 :: x8 :: x9 :: x10 :: x11 :: x12 :: x13 :: x14 :: x15 :: x16 :: x17 :: x18 :: x19 :: x20 :: x21 :: some (.int a) :: σ) H fun y H1 => ∃ b, y = .int b ∧ nx (x0 :: x1 :: x2 :: x3 :: x4 :: x5 :: x6 :: x7 :: x8 :: x9 :: x10 :: x11 :: x12 :: x13 :: x14 :: x15 :: x16 :: x17 :: x18 :: x19 :: x20 :: x21 :: some (.int (f a b)) :: σ) H1 := by
  have e : (fun y H1 => ∃ b, y = V.int b ∧ nx (x0 :: x1 :: x2 :: x3 :: x4 :: x5 :: x6 :: x7 :: x8 :: x9 :: x10 :: x11 :: x12 :: x13 :: x14 :: x15 :: x16 :: x17 :: x18 :: x19 :: x20 :: x21 :: some (.int (f a b)) :: σ) H1) = (fun y H1 => ipI f (.int a) y H1 fun z H2 => nx (x0 :: x1 :: x2 :: x3 :: x4 :: x5 :: x6 :: x7 :: x8 :: x9 :: x10 :: x11 :: x12 :: x13 :: x14 :: x15 :: x16 :: x17 :: x18 :: x19 :: x20 :: x21 :: some z :: σ) H2) := by
    funext y H1
    exact propext ⟨fun ⟨b, e1, q⟩ => ⟨a, b, rfl, e1, q⟩, fun ⟨a', b, e0, e1, q⟩ => by cases e0; exact ⟨b, e1, q⟩⟩
  rw [e]
  exact propext ⟨fun ⟨x, e, q⟩ => by cases (show some (V.int a) = some _ from Option.some.inj e); exact q, fun q => ⟨_, rfl, q⟩⟩
theorem q_var23 {x0 x1 x2 x3 x4 x5 x6 x7 x8 x9 x10 x11 x12 x13 x14 x15 x16 x17 x18 x19 x20 x21 x22 : Option V} {σ : L2.St} : tVar 23 (x0 :: x1 :: x2 :: x3 :: x4 :: x5 :: x6 :: x7 :: x8 :: x9 :: x10 :: x11 :: x12 :: x13 :: x14 :: x15 :: x16 :: x17 :: x18 :: x19 :: x20 :: x21 :: x22 :: some v :: σ) H Q = Q v H := propext ⟨fun ⟨_, e, q⟩ => by cases (show some v = some _ from Option.some.inj e); exact q, fun q => ⟨v, rfl, q⟩⟩
theorem q_asg23 {x0 x1 x2 x3 x4 x5 x6 x7 x8 x9 x10 x11 x12 x13 x14 x15 x16 x17 x18 x19 x20 x21 x22 : Option V} {o : Option V} {σ : L2.St} : tAsg te (gName 23) ⟨nx, rt, bk, ct⟩ (x0 :: x1 :: x2 :: x3 :: x4 :: x5 :: x6 :: x7 :: x8 :: x9 :: x10 :: x11 :: x12 :: x13 :: x14 :: x15 :: x16 :: x17 :: x18 :: x19 :: x20 :: x21 :: x22 :: o :: σ) H = te (x0 :: x1 :: x2 :: x3 :: x4 :: x5 :: x6 :: x7 :: x8 :: x9 :: x10 :: x11 :: x12 :: x13 :: x14 :: x15 :: x16 :: x17 :: x18 :: x19 :: x20 :: x21 :: x22 :: o :: σ) H fun x H1 => nx (x0 :: x1 :: x2 :: x3 :: x4 :: x5 :: x6 :: x7 :: x8 :: x9 :: x10 :: x11 :: x12 :: x13 :: x14 :: x15 :: x16 :: x17 :: x18 :: x19 :: x20 :: x21 :: x22 :: some x :: σ) H1 := rfl
theorem q_gn23 {x0 x1 x2 x3 x4 x5 x6 x7 x8 x9 x10 x11 x12 x13 x14 x15 x16 x17 x18 x19 x20 x21 x22 : Option V} {o : Option V} {σ : L2.St} {R : L2.St → Hp → Prop} : gName 23 v (x0 :: x1 :: x2 :: x3 :: x4 :: x5 :: x6 :: x7 :: x8 :: x9 :: x10 :: x11 :: x12 :: x13 :: x14 :: x15 :: x16 :: x17 :: x18 :: x19 :: x20 :: x21 :: x22 :: o :: σ) H R = R (x0 :: x1 :: x2 :: x3 :: x4 :: x5 :: x6 :: x7 :: x8 :: x9 :: x10 :: x11 :: x12 :: x13 :: x14 :: x15 :: x16 :: x17 :: x18 :: x19 :: x20 :: x21 :: x22 :: some v :: σ) H := rfl
theorem q_aug23 {x0 x1 x2 x3 x4 x5 x6 x7 x8 x9 x10 x11 x12 x13 x14 x15 x16 x17 x18 x19 x20 x21 x22 : Option V} {f : Int → Int → Int} {a : Int} {σ : L2.St} : tAug 23 te (ipI f) ⟨nx, rt, bk, ct⟩ (x0 :: x1 :: x2 :: x3 :: x4 :: x5 :: x6 :: x7 :: x8 :: x9 :: x10 :: x11 :: x12 :: x13 :: x14 :: x15 :: x16 :: x17 :: x18 :: x19 :: x20 :: x21 :: x22 :: some (.int a) :: σ) H = te (x0 :: x1 :: x2 :: x3 :: x4 :: x5 :: x6 :: x7 :: x8 :: x9 :: x10 :: x11 :: x12 :: x13 :: x14 :: x15 :: x16 :: x17 :: x18 :: x19 :: x20 :: x21 :: x22 :: some (.int a) :: σ) H fun y H1 => ∃ b, y = .int b ∧ nx (x0 :: x1 :: x2 :: x3 :: x4 :: x5 :: x6 :: x7 :: x8 :: x9 :: x10 :: x11 :: x12 :: x13 :: x14 :: x15 :: x16 :: x17 :: x18 :: x19 :: x20 :: x21 :: x22 :: some (.int (f a b)) :: σ) H1 := by
  have e : (fun y H1 => ∃ b, y = V.int b ∧ nx (x0 :: x1 :: x2 :: x3 :: x4 :: x5 :: x6 :: x7 :: x8 :: x9 :: x10 :: x11 :: x12 :: x13 :: x14 :: x15 :: x16 :: x17 :: x18 :: x19 :: x20 :: x21 :: x22 :: some (.int (f a b)) :: σ) H1) = (fun y H1 => ipI f (.int a) y H1 fun z H2 => nx (x0 :: x1 :: x2 :: x3 :: x4 :: x5 :: x6 :: x7 :: x8 :: x9 :: x10 :: x11 :: x12 :: x13 :: x14 :: x15 :: x16 :: x17 :: x18 :: x19 :: x20 :: x21 :: x22 :: some z :: σ) H2) := by
    funext y H1
    exact propext ⟨fun ⟨b, e1, q⟩ => ⟨a, b, rfl, e1, q⟩, fun ⟨a', b, e0, e1, q⟩ => by cases e0; exact ⟨b, e1, q⟩⟩
  rw [e]
  exact propext ⟨fun ⟨x, e, q⟩ => by cases (show some (V.int a) = some _ from Option.some.inj e); exact q, fun q => ⟨_, rfl, q⟩⟩
theorem q_seq : tSeq t u ⟨nx, rt, bk, ct⟩ σs H = t ⟨u ⟨nx, rt, bk, ct⟩, rt, bk, ct⟩ σs H := rfl
theorem q_next : tNext ⟨nx, rt, bk, ct⟩ σs H = nx σs H := rfl
theorem q_brk : tBreak ⟨nx, rt, bk, ct⟩ σs H = bk σs H := rfl
theorem q_cont : tCont ⟨nx, rt, bk, ct⟩ σs H = ct σs H := rfl
theorem q_ret : tRet te ⟨nx, rt, bk, ct⟩ σs H = te σs H rt := rfl
theorem q_retN : tRetN ⟨nx, rt, bk, ct⟩ σs H = rt .non H := rfl
theorem q_drop : tDrop te ⟨nx, rt, bk, ct⟩ σs H = te σs H fun _ H1 => nx σs H1 := rfl
theorem q_if : tIfS tt t u ⟨nx, rt, bk, ct⟩ σs H = tt σs H fun b H1 => if b = true then t ⟨nx, rt, bk, ct⟩ σs H1 else u ⟨nx, rt, bk, ct⟩ σs H1 := rfl
theorem q_c : tC v σs H Q = Q v H := rfl
theorem q_op {r : R2} : tOp r ta tc σs H Q = ta σs H fun x H1 => tc σs H1 fun y H2 => r x y H2 Q := rfl
theorem q_un {r : V → Hp → VK → Prop} : tUn r ta σs H Q = ta σs H fun x H1 => r x H1 Q := rfl
theorem q_cb {r : List V → Hp → VK → Prop} : tCB r tA σs H Q = tA σs H fun vs H1 => r vs H1 Q := rfl
theorem q_nil {R : List V → Hp → Prop} : tNil σs H R = R [] H := rfl
theorem q_cons {R : List V → Hp → Prop} : tCons ta tA σs H R = ta σs H fun x H1 => tA σs H1 fun xs H2 => R (x :: xs) H2 := rfl
theorem q_call {sp : Sp} {E : XK} : tCall sp [] E tA σs H Q = tA σs H fun vs H1 => sp vs H1 Q E := by
  have e : (fun vs H1 => sp (vs ++ []) H1 Q E) = (fun vs H1 => sp vs H1 Q E) := by funext vs H1; rw [List.append_nil]
  show (tA σs H fun vs H1 => sp (vs ++ []) H1 Q E) = _
  rw [e]
theorem q_test {R : Bool → Hp → Prop} : tTest te σs H R = te σs H fun x H1 => ∃ k, x = .bl k ∧ R k H1 := rfl
theorem q_tB {R : Bool → Hp → Prop} : tB te σs H R = te σs H fun x H1 => ∃ k, x = .bl k ∧ R k H1 := rfl
theorem q_bl {R : Bool → Prop} {b : Bool} : (∃ k, V.bl b = .bl k ∧ R k) = R b := propext ⟨fun ⟨k, e, q⟩ => by cases e; exact q, fun q => ⟨b, rfl, q⟩⟩
theorem q_int {R : Int → Prop} {b : Int} : (∃ k, V.int b = .int k ∧ R k) = R b := propext ⟨fun ⟨k, e, q⟩ => by cases e; exact q, fun q => ⟨b, rfl, q⟩⟩
theorem q_and {R : Bool → Hp → Prop} : tAnd tt tt' σs H R = tt σs H fun c H1 => if c = true then tt' σs H1 R else R false H1 := rfl
theorem q_or {R : Bool → Hp → Prop} : tOr tt tt' σs H R = tt σs H fun c H1 => if c = true then R true H1 else tt' σs H1 R := rfl
theorem q_not {R : Bool → Hp → Prop} : tNot tt σs H R = tt σs H fun c H1 => R (!c) H1 := rfl
theorem q_andV : tAndV ta tc σs H Q = ta σs H fun x H1 => ∃ c, x = .bl c ∧ if c = true then tc σs H1 Q else Q (.bl false) H1 := rfl
theorem q_orV : tOrV ta tc σs H Q = ta σs H fun x H1 => ∃ c, x = .bl c ∧ if c = true then Q (.bl true) H1 else tc σs H1 Q := rfl
theorem q_notV : tNotV ta σs H Q = ta σs H fun x H1 => ∃ c, x = .bl c ∧ Q (.bl (!c)) H1 := rfl
theorem q_ifE : tIf tt ta tc σs H Q = tt σs H fun c H1 => if c = true then ta σs H1 Q else tc σs H1 Q := rfl
theorem q_I0 {g : Int → Int → V} {i j : Int} : rI0 g (.int i) (.int j) H Q = Q (g i j) H := propext ⟨fun ⟨a, b, e1, e2, q⟩ => by cases e1; cases e2; exact q, fun q => ⟨i, j, rfl, rfl, q⟩⟩
theorem q_I {P : Int → Int → Prop} {g : Int → Int → V} {i j : Int} : rI P g (.int i) (.int j) H Q = (P i j ∧ Q (g i j) H) := propext ⟨fun ⟨a, b, e1, e2, q⟩ => by cases e1; cases e2; exact q, fun q => ⟨i, j, rfl, rfl, q⟩⟩
theorem q_U {g : Int → V} {i : Int} : rU g (.int i) H Q = Q (g i) H := propext ⟨fun ⟨a, e1, q⟩ => by cases e1; exact q, fun q => ⟨i, rfl, q⟩⟩
theorem q_eqI {i j : Int} : rEq (.int i) (.int j) H Q = Q (.bl (decide (i = j))) H := by
  have e : decide (V.int i = V.int j) = decide (i = j) := decide_eq_decide.mpr ⟨fun h => V.int.inj h, fun h => by rw [h]⟩
  refine propext ⟨fun ⟨_, q⟩ => ?_, fun q => ⟨rfl, ?_⟩⟩
  · rw [e] at q; exact q
  · rw [e]; exact q
theorem q_neI {i j : Int} : rNe (.int i) (.int j) H Q = Q (.bl (!decide (i = j))) H := by
  have e : decide (V.int i = V.int j) = decide (i = j) := decide_eq_decide.mpr ⟨fun h => V.int.inj h, fun h => by rw [h]⟩
  refine propext ⟨fun ⟨_, q⟩ => ?_, fun q => ⟨rfl, ?_⟩⟩
  · rw [e] at q; exact q
  · rw [e]; exact q
theorem q_eqS {i j : Str} : rEq (.str i) (.str j) H Q = Q (.bl (decide (i = j))) H := by
  have e : decide (V.str i = V.str j) = decide (i = j) := decide_eq_decide.mpr ⟨fun h => V.str.inj h, fun h => by rw [h]⟩
  refine propext ⟨fun ⟨_, q⟩ => ?_, fun q => ⟨rfl, ?_⟩⟩
  · rw [e] at q; exact q
  · rw [e]; exact q
theorem q_neS {i j : Str} : rNe (.str i) (.str j) H Q = Q (.bl (!decide (i = j))) H := by
  have e : decide (V.str i = V.str j) = decide (i = j) := decide_eq_decide.mpr ⟨fun h => V.str.inj h, fun h => by rw [h]⟩
  refine propext ⟨fun ⟨_, q⟩ => ?_, fun q => ⟨rfl, ?_⟩⟩
  · rw [e] at q; exact q
  · rw [e]; exact q
theorem q_eqB {i j : Bool} : rEq (.bl i) (.bl j) H Q = Q (.bl (decide (i = j))) H := by
  have e : decide (V.bl i = V.bl j) = decide (i = j) := decide_eq_decide.mpr ⟨fun h => V.bl.inj h, fun h => by rw [h]⟩
  refine propext ⟨fun ⟨_, q⟩ => ?_, fun q => ⟨rfl, ?_⟩⟩
  · rw [e] at q; exact q
  · rw [e]; exact q
theorem q_neB {i j : Bool} : rNe (.bl i) (.bl j) H Q = Q (.bl (!decide (i = j))) H := by
  have e : decide (V.bl i = V.bl j) = decide (i = j) := decide_eq_decide.mpr ⟨fun h => V.bl.inj h, fun h => by rw [h]⟩
  refine propext ⟨fun ⟨_, q⟩ => ?_, fun q => ⟨rfl, ?_⟩⟩
  · rw [e] at q; exact q
  · rw [e]; exact q
theorem q_abs {i : Int} : rAbs [.int i] H Q = Q (.int (i.natAbs : Nat)) H := propext ⟨fun ⟨a, e, q⟩ => by cases e; exact q, fun q => ⟨i, rfl, q⟩⟩
theorem q_toint {i : Int} : rInt [.int i] H Q = Q (.int i) H := propext ⟨fun ⟨a, e, q⟩ => by cases e; exact q, fun q => ⟨i, rfl, q⟩⟩
theorem q_tointB {b : Bool} : rIntB [.bl b] H Q = Q (.int (if b then 1 else 0)) H := propext ⟨fun ⟨a, e, q⟩ => by cases e; exact q, fun q => ⟨b, rfl, q⟩⟩
theorem q_lenS {l : List Nat} : rLenS [vS l] H Q = (l.length ≤ sizeLine ∧ Q (.int (l.length : Nat)) H) := propext ⟨fun ⟨m, e, q⟩ => by have e := S_inj.mp (V.str.inj (List.cons.inj e).1); subst e; exact q, fun q => ⟨l, rfl, q⟩⟩
theorem q_addS {l m : List Nat} : rAddS (vS l) (vS m) H Q = (l.length + m.length ≤ sizeLine ∧ Q (vS (l ++ m)) H) := propext ⟨fun ⟨a, b, e, e2, q⟩ => by have e := S_inj.mp (V.str.inj e); subst e; have e2 := S_inj.mp (V.str.inj e2); subst e2; exact q, fun q => ⟨l, m, rfl, rfl, q⟩⟩
theorem q_slS {l : List Nat} {lo hi : Option Int} : rSlSg (vS l) lo hi H Q = (l.length ≤ sizeLine ∧ Q (vS (cutN l lo hi)) H) := propext ⟨fun ⟨a, e, q⟩ => by have e := S_inj.mp (V.str.inj e); subst e; exact q, fun q => ⟨l, rfl, q⟩⟩
theorem q_sl {r : V → Option Int → Option Int → Hp → VK → Prop} {tl th : TO} : tSl r te tl th σs H Q = te σs H fun x H1 => tl σs H1 fun lo H2 => th σs H2 fun hi H3 => r x lo hi H3 Q := rfl
theorem q_noP {R : Option Int → Hp → Prop} : tNoPart σs H R = R none H := rfl
theorem q_part {R : Option Int → Hp → Prop} : tPart te σs H R = te σs H fun x H1 => ∃ i, x = .int i ∧ R (some i) H1 := rfl
theorem q_lst : tLst tA σs H Q = tA σs H fun xs H1 => NewL xs H1 Q := rfl
theorem q_tup : tTup tA σs H Q = tA σs H fun xs H1 => NewT xs H1 Q := rfl
theorem q_bm {T : String} {r : V → List V → Hp → VK → Prop} {to : TE} : tBM K T r to tA σs H Q = to σs H fun x H1 => tyV K T x H1 ∧ tA σs H1 fun vs H2 => r x vs H2 Q := rfl
theorem q_bm0 {T : String} {r : V → List V → Hp → VK → Prop} {to : TE} : tBM0 K T r to σs H Q = to σs H fun x H1 => tyV K T x H1 ∧ r x [] H1 Q := rfl
theorem q_for {wi : TI} : tFor wi g tb ⟨nx, rt, bk, ct⟩ σs H = wi σs H fun J H1 => LoopEnd J g tb ⟨nx, rt, bk, ct⟩ σs H1 := rfl
theorem q_iRng1 {R : It → Hp → Prop} : iRng1 tA σs H R = tA σs H fun vs H1 => Rg1 vs H1 R := rfl
theorem q_iRng2 {R : It → Hp → Prop} : iRng2 tA σs H R = tA σs H fun vs H1 => Rg2 vs H1 R := rfl
theorem q_iRng3 {R : It → Hp → Prop} : iRng3 tA σs H R = tA σs H fun vs H1 => Rg3 vs H1 R := rfl
theorem q_iList {R : It → Hp → Prop} : iList K te σs H R = te σs H fun x H1 => FoL K x H1 R := rfl
theorem q_iTup {R : It → Hp → Prop} : iTup K te σs H R = te σs H fun x H1 => FoT K x H1 R := rfl
theorem q_iStr {R : It → Hp → Prop} : iStr te σs H R = te σs H fun x H1 => FoS x H1 R := rfl
theorem q_iRev {R : It → Hp → Prop} : iRev K tA σs H R = tA σs H fun vs H1 => FoR K vs H1 R := rfl
theorem q_iEnum {R : It → Hp → Prop} : iEnum K tA σs H R = tA σs H fun vs H1 => FoE K vs H1 R := rfl
theorem q_yes {R : Bool → Hp → Prop} : tYes σs H R = R true H := rfl
theorem q_lc {wi : TI} {vs : List Nat} : tLc wi g tt te vs σs H Q = wi σs H fun J H1 => LcEnd J g tt te vs σs H1 Q := rfl
theorem q_iteT {A B : Prop} : (if true = true then A else B) = A := if_pos rfl
theorem q_iteF {A B : Prop} : (if false = true then A else B) = B := if_neg Bool.false_ne_true
theorem w_cdiv {i j : Int} (h1 : 0 < j) (h2 : j < 1073741824) : CDiv i j := ⟨h1, h2⟩
theorem w_cmul1 {i j : Int} (h1 : -(2 ^ 64) < i) (h2 : i < 2 ^ 64) : CMul i j := .inl ⟨h1, h2⟩
theorem w_cmul2 {i j : Int} (h1 : -(2 ^ 64) < j) (h2 : j < 2 ^ 64) : CMul i j := .inr ⟨h1, h2⟩
theorem w_size {n : Nat} (h : n ≤ 16777216) : n ≤ sizeLine := by rw [sizeLine_eq]; exact h
theorem w_sizel {n : Nat} (h : n < 16777216) : n < sizeLine := by rw [sizeLine_eq]; exact h
theorem w_conj {A B : Prop} (h2 : B) (h1 : A) : A ∧ B := ⟨h1, h2⟩
end
end Fw
namespace Fw
open PySem PySem.Spec PyProof.Rows L2
/-! ### isinstance of built-in kinds -/
section
variable {K : PySem.W.Frag} {H : Hp} {Q : VK} {x : V} {i : Int} {z : Str} {bb : Bool} {a : Addr} {xs : List V} {F0 H0 F : Hp} {L : List (Addr × HO)} {C : List Ck}
theorem w_isi {b : Bool} (t n : String) (b : Bool) (ty : TyX K H x (.type t)) (h : kitB t n = some b) (q : Q (.bl b) H) : rIsi K [x, .ty n] H Q := ⟨x, .ty n, _, _, b, rfl, .ty n, ty, kit_ty h, q⟩
theorem w_isiII (q : Q (.bl true) H) : rIsi K [.int i, .ty "int"] H Q := w_isi (b := true) "int" "int" true (.base (.int i)) (by decide +kernel) q
theorem w_isiIB (q : Q (.bl false) H) : rIsi K [.int i, .ty "bool"] H Q := w_isi (b := true) "int" "bool" false (.base (.int i)) (by decide +kernel) q
theorem w_isiBB (q : Q (.bl true) H) : rIsi K [.bl bb, .ty "bool"] H Q := w_isi (b := true) "bool" "bool" true (.base (.bl bb)) (by decide +kernel) q
theorem w_isiSS (q : Q (.bl true) H) : rIsi K [.str z, .ty "str"] H Q := w_isi (b := true) "str" "str" true (.base (.str z)) (by decide +kernel) q
theorem w_isiLL (q : Q (.bl true) H) (h : H a = some (.lst xs)) : rIsi K [.ref a, .ty "list"] H Q := w_isi (b := true) "list" "list" true (.base (.lst h)) (by decide +kernel) q
theorem w_isiTT (q : Q (.bl true) H) (h : H a = some (.tup xs)) : rIsi K [.ref a, .ty "tuple"] H Q := w_isi (b := true) "tuple" "tuple" true (.base (.tup h)) (by decide +kernel) q
end
end Fw
namespace Fw
open PySem PySem.Spec PyProof.Rows L2
theorem w_cut {t u : TS} {nx bk ct : L2.St → Hp → Prop} {rt : VK} {σ : L2.St} {H : Hp} (Mid : L2.St → Hp → Prop) (h1 : t ⟨Mid, rt, bk, ct⟩ σ H) (h2 : ∀ σ' H', Mid σ' H' → u ⟨nx, rt, bk, ct⟩ σ' H') : Evl.tCut t u ⟨nx, rt, bk, ct⟩ σ H := ⟨Mid, h1, h2⟩
end Fw
namespace Fw
open PySem PySem.Spec PyProof.Rows L2
/-! ### lists of tuples -/
def cTs (ts : List Addr) (f : Nat → List V) : Ck := ⟨fun F => ∀ (j : Nat) t, ts[j]? = some t → F t = some (.tup (f j)), fun s h j t e => s _ _ (h j t e)⟩
theorem cTs_nil {F : Hp} (f : Nat → List V) : (cTs [] f).p F := fun j t e => by simp at e
theorem cTs_add {F : Hp} {ts : List Addr} {f : Nat → List V} {t : Addr} (h : (cTs ts f).p F) (e : F t = some (.tup (f ts.length))) : (cTs (ts ++ [t]) f).p F := by
  intro j u hu
  by_cases hj : j < ts.length
  · rw [List.getElem?_append_left hj] at hu
    exact h j u hu
  · rw [List.getElem?_append_right (by omega)] at hu
    by_cases h0 : j - ts.length = 0
    · rw [h0] at hu
      have e1 : t = u := Option.some.inj hu
      have e2 : j = ts.length := by omega
      rw [← e1, e2]
      exact e
    · rw [List.getElem?_eq_none (by simp; omega)] at hu
      cases hu
theorem map_ref_add (ts : List Addr) (t : Addr) : ts.map V.ref ++ [V.ref t] = (ts ++ [t]).map V.ref := by rw [List.map_append]; rfl
theorem cutN_nat (l : List Nat) (a b : Nat) : cutN l (some (a : Int)) (some (b : Int)) = (l.drop a).take (b - a) := by
  unfold cutN
  rw [HT.sIx_nat, HT.sIx_nat]
  by_cases h : a ≤ l.length
  · rw [Nat.min_eq_left h]
    by_cases h2 : b ≤ l.length
    · rw [Nat.min_eq_left h2]
    · rw [Nat.min_eq_right (show l.length ≤ b by omega), List.take_of_length_le (by rw [List.length_drop]; exact Nat.le_refl _), List.take_of_length_le (by rw [List.length_drop]; omega)]
  · rw [Nat.min_eq_right (show l.length ≤ a by omega), List.drop_length, List.drop_eq_nil_of_le (show l.length ≤ a by omega)]
    simp
theorem cutN_to (l : List Nat) (b : Nat) : cutN l none (some (b : Int)) = l.take b := by
  unfold cutN
  rw [HT.sIx_nat, HT.sIx_none]
  show List.take (min b l.length - 0) (l.drop 0) = _
  rw [Nat.sub_zero, List.drop_zero]
  by_cases h : b ≤ l.length
  · rw [Nat.min_eq_left h]
  · rw [Nat.min_eq_right (show l.length ≤ b by omega), List.take_length, List.take_of_length_le (show l.length ≤ b by omega)]
theorem cutN_from (l : List Nat) (a : Nat) : cutN l (some (a : Int)) none = l.drop a := by
  unfold cutN
  rw [HT.sIx_nat, HT.sIx_none]
  by_cases h : a ≤ l.length
  · rw [Nat.min_eq_left h, List.take_of_length_le (by rw [List.length_drop]; exact Nat.le_refl _)]
  · rw [Nat.min_eq_right (show l.length ≤ a by omega), List.drop_length, List.drop_eq_nil_of_le (show l.length ≤ a by omega)]
    simp
end Fw
namespace Fw
open PySem PySem.Spec PyProof.Rows L2
section
variable {K : PySem.W.Frag} {H : Hp} {Q : VK} {a b : Addr} {ns ms : List Int}
theorem dpAll_ints : ∀ ns : List Int, DpAll K H (ns.map V.int) (ns.map PyData.int)
  | [] => .nil
  | n :: r => .cons (.int n) (dpAll_ints r)
theorem shaped_ints (ns : List Int) : SeqAt.shaped (.list (ns.map PyData.int)) = true := by
  unfold SeqAt.shaped
  refine Bool.and_eq_true_iff.mpr ⟨?_, decide_eq_true ?_⟩
  · show PyData.canLayAll0 (ns.map PyData.int) = true
    induction ns with
    | nil => rfl
    | cons n r ih => show (true && PyData.canLayAll0 (r.map PyData.int)) = true; rw [ih]; rfl
  · show PyData.depthAll (ns.map PyData.int) + 1 ≤ 64
    have h : PyData.depthAll (ns.map PyData.int) = 0 := by
      induction ns with
      | nil => rfl
      | cons n r ih => show max 0 (PyData.depthAll (r.map PyData.int)) = 0; rw [ih]; rfl
    omega
theorem w_eqDI (q : Q (.bl (decide (ns = ms))) H) (ha : SqL K H a (ns.map V.int)) (hb : SqL K H b (ms.map V.int)) : rEqD K (.ref a) (.ref b) H Q :=
  ⟨_, _, .lst ha (dpAll_ints ns), .lst hb (dpAll_ints ms), shaped_ints ns, shaped_ints ms, by
    show Q (.bl (PyData.eqvAll (ns.map PyData.int) (ms.map PyData.int))) H
    rw [PySem.W.ked_eqvAll]; exact q⟩
theorem w_neDI (q : Q (.bl (!decide (ns = ms))) H) (ha : SqL K H a (ns.map V.int)) (hb : SqL K H b (ms.map V.int)) : rNeD K (.ref a) (.ref b) H Q :=
  ⟨_, _, .lst ha (dpAll_ints ns), .lst hb (dpAll_ints ms), shaped_ints ns, shaped_ints ms, by
    show Q (.bl (!PyData.eqvAll (ns.map PyData.int) (ms.map PyData.int))) H
    rw [PySem.W.ked_eqvAll]; exact q⟩
variable {F0 H0 F : Hp} {L : List (Addr × HO)} {C : List Ck}
theorem w_sortRev (O : Own F0 H0 F H L C) (ha : SqL K H a (ns.map V.int)) (k : ∀ p H' (ms : List Int), ms.Perm ns → ms.Pairwise (· ≥ ·) → Own F0 H0 F H' ((p, .lst (ms.map V.int)) :: L) C → Q (.ref p) H') : rSortedKw K true [.bl true] [.ref a] [.bl true] H Q :=
  ⟨a, ns, rfl, rfl, ha, fun ms p pm od np => k p _ ms pm od (O.alloc np _)⟩
theorem w_max (h0 : 0 < ns.length) (ha : SqL K H a (ns.map V.int)) (k : ∀ m, m ∈ ns → (∀ y ∈ ns, y ≤ m) → Q (.int m) H) : rMax K [.ref a] H Q := ⟨a, ns, rfl, ha, h0, fun m h1 h2 => k m h1 h2⟩
theorem w_min (h0 : 0 < ns.length) (ha : SqL K H a (ns.map V.int)) (k : ∀ m, m ∈ ns → (∀ y ∈ ns, m ≤ y) → Q (.int m) H) : rMin K [.ref a] H Q := ⟨a, ns, rfl, ha, h0, fun m h1 h2 => k m h1 h2⟩
/-- two lists alike in order are one -/
theorem sorted_one : ∀ {ms ns : List Int}, ms.Perm ns → ms.Pairwise (· ≥ ·) → ns.Pairwise (· ≥ ·) → ms = ns := fun {ms ns} p h1 h2 =>
  List.Perm.eq_of_pairwise (le := (· ≥ ·)) (fun a b _ _ h1 h2 => by omega) h1 h2 p
theorem q_ckw {r : List V → List V → Hp → VK → Prop} {t tk : TA} {σ : L2.St} : tCKw r t tk σ H Q = t σ H fun vs H1 => tk σ H1 fun zs H2 => r vs zs H2 Q := rfl
theorem Own.tup (O : Own F0 H0 F H L C) (i : Nat) {ts : List Addr} {f : Nat → List V} {j : Nat} {t : Addr} (h : C[i]? = some (cTs ts f) := by rfl) (e : ts[j]? = some t) : H t = some (.tup (f j)) := O.fh _ _ (O.cs.get h j t e)
theorem w_ixT2 {xs : List V} {i : Int} {v : V} (q : Q v H) (hs : H a = some (.tup xs)) (hi : atI xs i = some v) : rIxT K (.ref a) (.int i) H Q := w_ixT q (.inl (.inl hs)) hi
end
end Fw
namespace Fw
theorem q_iteNT {A B : Prop} : (if (!true) = true then A else B) = B := if_neg Bool.false_ne_true
theorem q_iteNF {A B : Prop} : (if (!false) = true then A else B) = A := if_pos rfl
theorem sum_rep (n m : Nat) : (List.replicate n m).sum = n * m := by
  induction n with
  | zero => simp
  | succ n ih => rw [List.replicate_succ, List.sum_cons, ih, Nat.succ_mul, Nat.add_comm]
theorem flat_rep {α : Type} (n : Nat) (l : List α) : (List.replicate n l).flatten.length = n * l.length := by
  rw [List.length_flatten, List.map_replicate, sum_rep]
end Fw
namespace Fw
open PySem L2
theorem q_wipe1 {σ : L2.St} {s : Str} {n : Nat} : wipe σ (List.map (fun x => x.snd) [(s, n)]) = σ.set n none := rfl
theorem q_wipe2 {σ : L2.St} {s s' : Str} {n n' : Nat} : wipe σ (List.map (fun x => x.snd) [(s, n), (s', n')]) = (σ.set n' none).set n none := rfl
end Fw
namespace Fw
open PySem PySem.Spec PyProof.Rows L2
/-! ### further rules -/
section
variable {X : Cx} {K : PySem.W.Frag}
def rListQ (K : PySem.W.Frag) : List V → Hp → VK → Prop := fun vs H Q => ∃ p ys, vs = [.ref p] ∧ (SqL K H p ys ∨ SqT K H p ys) ∧ ys.length ≤ sizeLine ∧ NewL ys H Q
theorem listQ_ (e : X.K = K := by rfl) : CallR X (.type "list") (rListQ K) := by
  subst e
  exact fun pins s σ H vs us Q I r ⟨p, ys, e, h, _, n⟩ => call_list_of pins s σ H vs us Q I r ⟨p, ys, e, h, n.2⟩
/-- list(text) -/
def rListS : List V → Hp → VK → Prop := fun vs H Q => ∃ l : List Nat, vs = [vS l] ∧ l.length ≤ sizeLine ∧ NewL (l.map fun c => vS [c]) H Q
theorem vals_signs {x : Str} : ∀ {l : List Nat} {vs : List Value}, vs.length = l.length → (∀ (j : Nat) v, vs[j]? = some v → ∃ c u, l[j]? = some c ∧ v = .str ⟨#[c]⟩ u) → Vals (l.map fun c => vS [c]) vs
  | [], [], _, _ => .nil
  | [], _ :: _, h, _ => by cases h
  | _ :: _, [], h, _ => by cases h
  | c :: l, v :: vs, h, f => by
    obtain ⟨c', u, e1, e2⟩ := f 0 v rfl
    have e3 : c = c' := Option.some.inj e1
    subst e3
    exact .cons ⟨u, e2⟩ (vals_signs (x := x) (by simpa using h) fun j w hw => f (j + 1) w hw)
theorem listS_ (hc : X.calm = true) : CallR X (.type "list") rListS := by
  intro pins s σ H vs us Q I r h
  obtain ⟨l, rfl, hz, q⟩ := h
  obtain ⟨u, rfl, t, rfl⟩ := vals1 r
  refine call_list_str (I.ok.hd hc) (S l) t (fun h' tk acc' c' kp e it => ?_) (by show (S l).cps.size ≤ sizeLine; simpa [S] using hz)
  refine ⟨.ref s.heap.objs.size, _, I.laid (t' := tk) kp (Nat.le_refl _) (show ObjOk X.prog X.w _ h' _ (.lst (l.map fun c => vS [c])) from ⟨by rw [List.length_map]; exact hz, acc'.toList, c', ?_, e⟩), rfl, q.2 _ (I.hok.fresh (Nat.le_refl _))⟩
  refine vals_signs (x := S l) ?_ fun j v hv => ?_
  · rw [Array.length_toList, it.1]
    simp [S]
  · obtain ⟨c, u, e1, e2⟩ := it.2 j v (by simpa using hv)
    exact ⟨c, u, by simpa [S] using e1, e2⟩
/-- list[i] in an augmented assignment, 0 ≤ i -/
def rGetL (K : PySem.W.Frag) : V → V → Hp → VK → Prop := fun x y H Q => ∃ p xs i v, x = .ref p ∧ y = .int i ∧ SqL K H p xs ∧ 0 ≤ i ∧ xs[i.toNat]? = some v ∧ Q v H
theorem getL_ (e : X.K = K := by rfl) : PGet X (rGetL K) := by
  subst e
  intro pins s σ H o i ov iv Q I rx ry h
  obtain ⟨p, xs, i, v, rfl, rfl, hq, h0, he, q⟩ := h
  cases rx
  obtain ⟨t, rfl⟩ := ry
  obtain ⟨its, r, pl, hz⟩ := I.list hq
  obtain ⟨w, ew, rw'⟩ := r.get he
  have hl := r.length
  have hn := line63
  have hlt := (List.getElem?_eq_some_iff.mp he).1
  exact wpAny_getItem_list pl.isList h0 (by omega) (by simpa using ew) ⟨v, H, I, rw', q⟩
/-- sep.join(texts) -/
def joinN (sep : List Nat) : List (List Nat) → List Nat
  | [] => []
  | [x] => x
  | x :: r => x ++ (sep ++ joinN sep r)
theorem joinN_cons (sep x y : List Nat) (r : List (List Nat)) : joinN sep (x :: y :: r) = x ++ (sep ++ joinN sep (y :: r)) := rfl
theorem joinN_nil : ∀ ys : List (List Nat), joinN [] ys = ys.flatten
  | [] => rfl
  | [x] => by simp [joinN]
  | x :: y :: r => by rw [joinN_cons, joinN_nil (y :: r), List.nil_append]; rfl
theorem glue_fold (sep : List Nat) : ∀ (r : List (List Nat)) (acc : List Nat), (r.map S).foldl (fun (a : Array Nat) (p : Str) => a ++ (S sep).cps ++ p.cps) acc.toArray = (r.foldl (fun a p => a ++ (sep ++ p)) acc).toArray
  | [], acc => rfl
  | x :: r, acc => by
    rw [List.map_cons, List.foldl_cons, List.foldl_cons, ← glue_fold sep r (acc ++ (sep ++ x))]
    congr 1
    simp [S]
theorem glue_join (sep : List Nat) : ∀ (r : List (List Nat)) (x : List Nat), r.foldl (fun a p => a ++ (sep ++ p)) x = joinN sep (x :: r)
  | [], x => rfl
  | y :: r, x => by
    rw [List.foldl_cons, glue_join sep r, joinN_cons]
    cases r with
    | nil => rfl
    | cons z r => rw [joinN_cons, joinN_cons]; simp
theorem txt_join (sep : List Nat) (ys : List (List Nat)) : Txt.join (S sep) (ys.map S) = S (joinN sep ys) := by
  show (⟨((ys.map S).drop 1).foldl (fun (acc : Array Nat) (p : Str) => acc ++ (S sep).cps ++ p.cps) ((ys.map S).headD Str.empty).cps⟩ : Str) = _
  cases ys with
  | nil => rfl
  | cons x r =>
    show (⟨(r.map S).foldl (fun (acc : Array Nat) (p : Str) => acc ++ (S sep).cps ++ p.cps) (S x).cps⟩ : Str) = _
    have e := glue_fold sep r x
    rw [glue_join] at e
    show (⟨(r.map S).foldl (fun (acc : Array Nat) (p : Str) => acc ++ (S sep).cps ++ p.cps) x.toArray⟩ : Str) = _
    rw [e]
    rfl
def rJoin (K : PySem.W.Frag) : V → List V → Hp → VK → Prop := fun x xs H Q => ∃ (l : List Nat) (p : Addr) (ys : List (List Nat)), x = vS l ∧ xs = [.ref p] ∧ (SqL K H p (ys.map vS) ∨ SqT K H p (ys.map vS)) ∧ (ys.map List.length).sum + ys.length * l.length ≤ 16777216 ∧ Q (vS (joinN l ys)) H
theorem mt_joinN (e : X.K = K := by rfl) : MtR X "str.join" (rJoin K) := by
  subst e
  intro pins s σ H x xs v us Q I rx rs h
  obtain ⟨l, p, ys, e1, e2, hp, hz, q⟩ := h
  have em : ys.map vS = (ys.map S).map V.str := by rw [List.map_map]; rfl
  refine mt_join pins s σ H x xs v us Q I rx rs ⟨S l, p, ys.map S, e1, e2, by rw [← em]; exact hp, ?_, by rw [txt_join]; exact q⟩
  rw [List.map_map, List.length_map, S_len]
  have e3 : ((fun z : Str => z.length) ∘ S) = List.length := by funext z; exact S_len z
  rw [e3]
  exact hz
theorem pe_joinL {o e : Expr} {apos pos : Pos} {to te : TE} (ho : PE X o to) (he : PE X e te) (eK : X.K = K := by rfl) (hs : starEach [e] X.env = [(false, eval e X.env)] := by rfl) (hbase : attributeBase o "join" X.env (eval o X.env) = eval o X.env := by rfl) (hline : (apos.endLine == pos.line) = true := by rfl) :
    PE X (.Call (.Attribute o "join" apos) [e] [] pos) (tM1 (rJoin K) to te) := pe_m1 PySem.F.slot_str_join PySem.F.type_str_join (mt_joinN eK) ho he hs hbase hline
/-- text.index(sign), the sign stands in it -/
def rIdxS : V → List V → Hp → VK → Prop := fun x xs H Q => ∃ (l : List Nat) (c : Nat), x = vS l ∧ xs = [vS [c]] ∧ c ∈ l ∧ Q (.int (l.idxOf c : Nat)) H
theorem occ_idx {l : List Nat} {c : Nat} (h : c ∈ l) : ∃ r, Builtin.Str.occurrences (S l) (S [c]) 0 (S l).length 1 = l.idxOf c :: r := by
  rcases StrLaws.occ_head (S l) (S [c]) 1 (Nat.le_refl _) with ⟨_, hn⟩ | ⟨i, r, e, ha, hn⟩
  · obtain ⟨i, hi⟩ := List.mem_iff_getElem?.mp h
    exact absurd ((StrLaws.subAt_one (S l) c i).mpr (by rw [S_list]; exact hi)) (hn i)
  · refine ⟨r, ?_⟩
    rw [e]
    congr 1
    have h1 := (StrLaws.subAt_one (S l) c i).mp ha
    rw [S_list] at h1
    have h2 : ∀ k, k < i → l[k]? ≠ some c := fun k hk z => hn k hk ((StrLaws.subAt_one (S l) c k).mpr (by rw [S_list]; exact z))
    obtain ⟨hi, hv⟩ := List.getElem?_eq_some_iff.mp h1
    have hlt : l.idxOf c < l.length := List.idxOf_lt_length_of_mem h
    have hg : l[l.idxOf c]? = some c := by
      rw [List.getElem?_eq_getElem hlt, List.getElem_idxOf hlt]
    by_cases h3 : l.idxOf c < i
    · exact absurd hg (h2 _ h3)
    · by_cases h4 : i < l.idxOf c
      · exact absurd hv (by
          have := List.not_of_lt_findIdx (p := (· == c)) (xs := l) (i := i) h4
          simpa using this)
      · omega
theorem mt_idxS : MtR X "str.index" rIdxS := by
  intro pins s σ H x xs v us Q I rx rs h
  obtain ⟨l, c, e1, e2, hc, q⟩ := h
  obtain ⟨r, e⟩ := occ_idx hc
  exact mt_sindex pins s σ H x xs v us Q I rx rs ⟨S l, S [c], _, r, e1, e2, e, q⟩
theorem pe_indexL {o e : Expr} {apos pos : Pos} {to te : TE} (ho : PE X o to) (he : PE X e te) (hs : starEach [e] X.env = [(false, eval e X.env)] := by rfl) (hbase : attributeBase o "index" X.env (eval o X.env) = eval o X.env := by rfl) (hline : (apos.endLine == pos.line) = true := by rfl) :
    PE X (.Call (.Attribute o "index" apos) [e] [] pos) (tM1 rIdxS to te) := pe_m1 PySem.F.slot_str_index PySem.F.type_str_index mt_idxS ho he hs hbase hline
def rStarts : V → List V → Hp → VK → Prop := fun x xs H Q => ∃ l m : List Nat, x = vS l ∧ xs = [vS m] ∧ Q (.bl (m.isPrefixOf l)) H
theorem starts_pre (l m : List Nat) : Txt.startswith (S l) (S m) = m.isPrefixOf l := by
  unfold Txt.startswith
  rw [S_len, S_len, StrLaws.subAt_eq]
  rw [Bool.eq_iff_iff, Bool.and_eq_true, decide_eq_true_eq, List.isPrefixOf_iff_prefix]
  show (0 + m.length ≤ l.length ∧ (((S l).cps.toList.drop 0).take (S m).cps.toList.length == (S m).cps.toList) = true) ↔ _
  rw [S_list, S_list, List.drop_zero, beq_iff_eq]
  constructor
  · rintro ⟨_, h⟩
    rw [← h]
    exact List.take_prefix _ _
  · intro h
    exact ⟨by have := h.length_le; omega, (List.prefix_iff_eq_take.mp h).symm⟩
theorem mt_startsN : MtR X "str.startswith" rStarts := by
  intro pins s σ H x xs v us Q I rx rs h
  obtain ⟨l, m, e1, e2, q⟩ := h
  exact mt_startswith pins s σ H x xs v us Q I rx rs ⟨S l, S m, e1, e2, by rw [starts_pre]; exact q⟩
theorem pe_startsL {o e : Expr} {apos pos : Pos} {to te : TE} (ho : PE X o to) (he : PE X e te) (hs : starEach [e] X.env = [(false, eval e X.env)] := by rfl) (hbase : attributeBase o "startswith" X.env (eval o X.env) = eval o X.env := by rfl) (hline : (apos.endLine == pos.line) = true := by rfl) :
    PE X (.Call (.Attribute o "startswith" apos) [e] [] pos) (tM1 rStarts to te) := pe_m1 PySem.F.slot_str_startswith PySem.F.type_str_startswith mt_startsN ho he hs hbase hline
end
section
variable {nx bk ct : L2.St → Hp → Prop} {rt : VK} {t u tb : TS} {H F0 H0 F : Hp} {L : List (Addr × HO)} {C : List Ck} {te ta tc : TE} {Q : VK} {v x y : V} {g : TG} {tt : TT} {tA : TA} {K : PySem.W.Frag} {σ : L2.St} {a b : Addr} {xs ys : List V} {i : Int}
theorem w_listL (O : Own F0 H0 F H L C) (hs : SqL K H a xs) (k : ∀ p H', Own F0 H0 F H' ((p, .lst xs) :: L) C → Q (.ref p) H') (hz : xs.length ≤ sizeLine) : rListQ K [.ref a] H Q := ⟨a, xs, rfl, .inl hs, hz, w_newL O k hz⟩
theorem w_listS {l : List Nat} (O : Own F0 H0 F H L C) (k : ∀ p H', Own F0 H0 F H' ((p, .lst (l.map fun c => vS [c])) :: L) C → Q (.ref p) H') (hz : l.length ≤ sizeLine) : rListS [vS l] H Q := ⟨l, rfl, hz, w_newL O k (by rw [List.length_map]; exact hz)⟩
theorem q_gsub {to ti : TE} {ts : TSet} {R : L2.St → Hp → Prop} : gSub to ti ts v σ H R = to σ H fun o H1 => ti σ H1 fun i H2 => ts o i v H2 fun H3 => R σ H3 := rfl
theorem q_asgG {to ti : TE} {ts : TSet} : tAsg te (gSub to ti ts) ⟨nx, rt, bk, ct⟩ σ H = te σ H fun x H1 => gSub to ti ts x σ H1 nx := rfl
theorem q_asgT {n : Nat} {tg : TGs} : tAsg te (gTup K n tg) ⟨nx, rt, bk, ct⟩ σ H = te σ H fun x H1 => gTup K n tg x σ H1 nx := rfl
theorem q_gnil {R : L2.St → Hp → Prop} : gNil [] σ H R = R σ H := propext ⟨fun ⟨_, q⟩ => q, fun q => ⟨rfl, q⟩⟩
theorem q_gcons {tg : TG} {tgs : TGs} {R : L2.St → Hp → Prop} : gCons tg tgs (v :: xs) σ H R = tg v σ H fun σ' H' => tgs xs σ' H' R := propext ⟨fun ⟨_, _, e, q⟩ => by cases e; exact q, fun q => ⟨v, xs, rfl, q⟩⟩
theorem w_gtup {n : Nat} {tg : TGs} {R : L2.St → Hp → Prop} (h : tg xs σ H R) (hs : SqT K H a xs) (hn : xs.length = n := by rfl) : gTup K n tg (.ref a) σ H R := ⟨a, xs, rfl, hs, hn, h⟩
theorem q_par {j k : Nat} : tPar j k tA ⟨nx, rt, bk, ct⟩ σ H = tA σ H fun vs H1 => ∃ v w, vs = [v, w] ∧ nx ((σ.set j (some v)).set k (some w)) H1 := rfl
theorem q_two {w : V} {R : V → V → Prop} : (∃ x y, [v, w] = [x, y] ∧ R x y) = R v w := propext ⟨fun ⟨_, _, e, q⟩ => by cases e; exact q, fun q => ⟨_, _, rfl, q⟩⟩
theorem q_chain {r r' : R2} : tChain r r' te ta tc σ H Q = te σ H fun x H1 => ta σ H1 fun y H2 => r x y H2 fun z H3 => ∃ k, z = .bl k ∧ (if k = true then tc σ H3 fun w' H4 => r' y w' H4 Q else Q (.bl false) H3) := rfl
theorem q_m1 {r : V → List V → Hp → VK → Prop} {to : TE} : tM1 r to te σ H Q = to σ H fun x H1 => (∃ a, x = .str a) ∧ te σ H1 fun y H2 => r x [y] H2 Q := rfl
theorem q_isS {z : Str} {P : Prop} : ((∃ a, V.str z = .str a) ∧ P) = P := propext ⟨fun h => h.2, fun h => ⟨⟨z, rfl⟩, h⟩⟩
theorem q_augS {to ti : TE} {tget : V → V → Hp → VK → Prop} {tip : TIp} {ts : TSet} : tAugS to ti te tget tip ts ⟨nx, rt, bk, ct⟩ σ H = to σ H fun o H1 => ti σ H1 fun i H2 => tget o i H2 fun x H3 => te σ H3 fun y H4 => tip x y H4 fun z H5 => ts o i z H5 fun H6 => nx σ H6 := rfl
theorem q_ipI {f : Int → Int → Int} {i j : Int} : ipI f (.int i) (.int j) H Q = Q (.int (f i j)) H := propext ⟨fun ⟨_, _, e1, e2, q⟩ => by cases e1; cases e2; exact q, fun q => ⟨i, j, rfl, rfl, q⟩⟩
theorem ixN_pos {n : Nat} (h : 0 ≤ i ∧ i < n) : ixN n i = some i.toNat := by
  unfold ixN
  rw [if_pos h.1, if_pos (by omega)]
theorem w_set {j : Nat} {R : Hp → Prop} (O : Own F0 H0 F H L C) (hi : L[j]? = some (a, .lst xs)) (h : 0 ≤ i ∧ i < xs.length) (k : ∀ H', Own F0 H0 F H' (L.set j (a, .lst (xs.set i.toNat v))) C → R H') : rSetL (.ref a) (.int i) v H R :=
  ⟨a, xs, i, i.toNat, rfl, rfl, O.at_ j hi, ixN_pos h, k _ (O.set j hi _)⟩
theorem w_set0 {R : Hp → Prop} (O : Own F0 H0 F H ((a, .lst xs) :: L) C) (k : ∀ H', Own F0 H0 F H' ((a, .lst (xs.set i.toNat v)) :: L) C → R H') (h : 0 ≤ i ∧ i < xs.length) : rSetL (.ref a) (.int i) v H R := w_set (j := 0) O rfl h k
theorem w_set1 {q : Addr × HO} {R : Hp → Prop} (O : Own F0 H0 F H (q :: (a, .lst xs) :: L) C) (k : ∀ H', Own F0 H0 F H' (q :: (a, .lst (xs.set i.toNat v)) :: L) C → R H') (h : 0 ≤ i ∧ i < xs.length) : rSetL (.ref a) (.int i) v H R := w_set (j := 1) O rfl h k
theorem w_set2 {q q' : Addr × HO} {R : Hp → Prop} (O : Own F0 H0 F H (q :: q' :: (a, .lst xs) :: L) C) (k : ∀ H', Own F0 H0 F H' (q :: q' :: (a, .lst (xs.set i.toNat v)) :: L) C → R H') (h : 0 ≤ i ∧ i < xs.length) : rSetL (.ref a) (.int i) v H R := w_set (j := 2) O rfl h k
theorem w_getN {ns : List Int} (q : Q (.int (ns.getD i.toNat 0)) H) (hs : SqL K H a (ns.map V.int)) (h : 0 ≤ i ∧ i < ns.length) : rGetL K (.ref a) (.int i) H Q := by
  refine ⟨a, _, i, .int (ns.getD i.toNat 0), rfl, rfl, hs, h.1, ?_, q⟩
  rw [List.getElem?_map, List.getD_eq_getElem?_getD, List.getElem?_eq_getElem (by omega)]
  rfl
theorem w_rep (O : Own F0 H0 F H L C) (hs : H a = some (.lst xs)) (k : ∀ p H', Own F0 H0 F H' ((p, .lst (List.replicate i.toNat xs).flatten) :: L) C → Q (.ref p) H') (h : -(2 ^ 63) ≤ i ∧ i < 2 ^ 63) (hz : xs.length * i.toNat ≤ sizeLine) : rRep (.ref a) (.int i) H Q :=
  ⟨a, i, xs, rfl, rfl, hs, h.1, h.2, hz, fun p np => k p _ (O.alloc np _)⟩
theorem w_slL {lo hi : Option Int} (O : Own F0 H0 F H L C) (hs : SqL K H a xs) (k : ∀ p H', Own F0 H0 F H' ((p, .lst (cutV xs lo hi)) :: L) C → Q (.ref p) H') : rSlL K (.ref a) lo hi H Q := ⟨a, xs, rfl, hs, fun p np => k p _ (O.alloc np _)⟩
theorem w_cat (O : Own F0 H0 F H L C) (hs : H a = some (.lst xs)) (ht : H b = some (.lst ys)) (k : ∀ p H', Own F0 H0 F H' ((p, .lst (xs ++ ys)) :: L) C → Q (.ref p) H') (hz : xs.length + ys.length ≤ sizeLine) : rCat (.ref a) (.ref b) H Q := ⟨a, b, xs, ys, rfl, rfl, hs, ht, hz, fun p np => k p _ (O.alloc np _)⟩
theorem w_ext {j : Nat} (O : Own F0 H0 F H L C) (hi : L[j]? = some (a, .lst xs)) (hb : H b = some (.lst ys)) (k : ∀ H', Own F0 H0 F H' (L.set j (a, .lst (xs ++ ys))) C → Q .non H') (hz : xs.length + ys.length ≤ sizeLine) : rExtend (.ref a) [.ref b] H Q :=
  ⟨a, b, xs, ys, rfl, rfl, O.at_ j hi, hb, hz, k _ (O.set j hi _)⟩
theorem w_ext0 (O : Own F0 H0 F H ((a, .lst xs) :: L) C) (hb : H b = some (.lst ys)) (k : ∀ H', Own F0 H0 F H' ((a, .lst (xs ++ ys)) :: L) C → Q .non H') (hz : xs.length + ys.length ≤ sizeLine) : rExtend (.ref a) [.ref b] H Q := w_ext (j := 0) O rfl hb k hz
theorem w_ext1 {q : Addr × HO} (O : Own F0 H0 F H (q :: (a, .lst xs) :: L) C) (hb : H b = some (.lst ys)) (k : ∀ H', Own F0 H0 F H' (q :: (a, .lst (xs ++ ys)) :: L) C → Q .non H') (hz : xs.length + ys.length ≤ sizeLine) : rExtend (.ref a) [.ref b] H Q := w_ext (j := 1) O rfl hb k hz
theorem w_rev {j : Nat} (O : Own F0 H0 F H L C) (hi : L[j]? = some (a, .lst xs)) (k : ∀ H', Own F0 H0 F H' (L.set j (a, .lst xs.reverse)) C → Q .non H') : rReverse (.ref a) [] H Q := ⟨a, xs, rfl, rfl, O.at_ j hi, k _ (O.set j hi _)⟩
theorem w_rev0 (O : Own F0 H0 F H ((a, .lst xs) :: L) C) (k : ∀ H', Own F0 H0 F H' ((a, .lst xs.reverse) :: L) C → Q .non H') : rReverse (.ref a) [] H Q := w_rev (j := 0) O rfl k
theorem w_join {l : List Nat} {ls : List (List Nat)} (q : Q (vS (joinN l ls)) H) (hs : SqL K H a (ls.map vS)) (hz : (ls.map List.length).sum + ls.length * l.length ≤ 16777216) : rJoin K (vS l) [.ref a] H Q := ⟨l, a, ls, rfl, rfl, .inl hs, hz, q⟩
theorem q_starts {l m : List Nat} : rStarts (vS l) [vS m] H Q = Q (.bl (m.isPrefixOf l)) H := propext ⟨fun ⟨l', m', e1, e2, q⟩ => by
  have e1 := S_inj.mp (V.str.inj e1)
  subst e1
  have e2 := S_inj.mp (V.str.inj (List.cons.inj e2).1)
  subst e2
  exact q, fun q => ⟨l, m, rfl, rfl, q⟩⟩
theorem w_idxS {l : List Nat} {c : Nat} (q : Q (.int (l.idxOf c : Nat)) H) (h : c ∈ l) : rIdxS (vS l) [vS [c]] H Q := ⟨l, c, rfl, rfl, h, q⟩
/-! text == text by their signs -/
theorem decide_S {l m : List Nat} : decide (S l = S m) = decide (l = m) := decide_eq_decide.mpr S_inj
/-! a list of lists of integers, each frozen -/
def cNs (ts : List Addr) (nss : List (List Int)) : Ck := ⟨fun F => ts.length = nss.length ∧ ∀ (j : Nat) t ns, ts[j]? = some t → nss[j]? = some ns → F t = some (.lst (ns.map V.int)), fun s h => ⟨h.1, fun j t ns e1 e2 => s _ _ (h.2 j t ns e1 e2)⟩⟩
theorem cNs_nil {F : Hp} : (cNs [] []).p F := ⟨rfl, fun j t ns e => by simp at e⟩
theorem cNs_add {F : Hp} {ts : List Addr} {nss : List (List Int)} {t : Addr} {ns : List Int} (h : (cNs ts nss).p F) (e : F t = some (.lst (ns.map V.int))) : (cNs (ts ++ [t]) (nss ++ [ns])).p F := by
  refine ⟨by rw [List.length_append, List.length_append, h.1]; rfl, fun j u ms hu hm => ?_⟩
  by_cases hj : j < ts.length
  · rw [List.getElem?_append_left hj] at hu
    rw [List.getElem?_append_left (by have := h.1; omega)] at hm
    exact h.2 j u ms hu hm
  · rw [List.getElem?_append_right (by omega)] at hu
    rw [List.getElem?_append_right (by have := h.1; omega), ← h.1] at hm
    by_cases h0 : j - ts.length = 0
    · rw [h0] at hu hm
      have e1 : t = u := Option.some.inj hu
      have e2 : ns = ms := Option.some.inj hm
      rw [← e1, ← e2]
      exact e
    · rw [List.getElem?_eq_none (by simp; omega)] at hu
      cases hu
end
end Fw

namespace Fw
open PySem PySem.Spec PyProof.Rows L2
/-! ### promises whose arguments are told of the heap at the entry -/
def SpV (R : V → Prop) (H : Hp) (Q : VK) : Prop := ∀ v H', Same H H' → R v → Q v H'
def SpN (R : V → List (Addr × HO) → Hp → Prop) (H : Hp) (Q : VK) : Prop := Spec (fun _ => True) R H Q
section
variable {F0 H0 F H F' H' : Hp} {L : List (Addr × HO)} {C : List Ck} {R : V → Prop} {Rn : V → List (Addr × HO) → Hp → Prop} {Q : VK} {v : V} {K : PySem.W.Frag} {a : Addr} {xs : List V}
abbrev noF : Hp := fun _ => none
theorem Own.start0 : Own noF H noF H [] [] := ⟨Same.refl _, fun _ _ h => (nomatch h), Same.refl _, fun _ _ h => .inl h, fun _ h => (nomatch h), List.nodup_nil, trivial⟩
theorem Own.callS (O : Own F0 H0 F H L C) (k : ∀ v H', R v → Own F0 H0 F H' L C → Q v H') : SpV R H Q := fun _ _ s r => k _ _ r (O.more s)
theorem Own.retS (O : Own F0 H F' H' L C) (q : SpV R H Q) (r : R v) : Q v H' := q _ _ O.hh r
theorem Own.callN (O : Own F0 H0 F H L C) (k : ∀ v L' F' H', Rn v L' F' → Own F0 H0 F' H' (L' ++ L) C → Q v H') : SpN Rn H Q := O.call trivial k
theorem Own.ofH (O : Own F0 H0 F H L C) (h : SqL K H0 a xs) : SqL K H a xs := O.hh.seq h
theorem Own.ofHT (O : Own F0 H0 F H L C) (h : SqT K H0 a xs) : SqT K H a xs := Same.sqt O.hh h
theorem Own.ofHO {o : HO} (O : Own F0 H0 F H L C) (h : H0 a = some o) : H a = some o := O.hh _ _ h
end
end Fw

namespace Fw
open PySem PySem.Spec PyProof.Rows L2
/-! ### dicts of the module -/
theorem ixD_ {X : Cx} {K : PySem.W.Frag} {w : World} (e : X.K = K := by rfl) (e2 : X.w = w := by rfl) : IxR X (rIxD K w) := by
  subst e
  subst e2
  exact ix_kdict
theorem kd_of {K : PySem.W.Frag} {w : World} {a : Addr} {kvs : List (Str × He.Dv)} (D : ∃ es n, KDict K w a es n) (h : He.valsB K a kvs = true) : ∀ q ∈ kvs, KDct K w a q.1 (q.2.v K) := fun q hq => by
  obtain ⟨es, n, d⟩ := D
  obtain ⟨u, h1, h2⟩ := He.valsB_ok h hq
  exact ⟨es, n, u, d.at_, d.lit, h1, h2⟩
theorem w_kd {K : PySem.W.Frag} {w : World} {a : Addr} {z : Str} {v : V} {H : Hp} {Q : VK} (h : KDct K w a z v) (q : Q v H) : rIxD K w (.ref a) (.str z) H Q := ⟨a, z, v, rfl, rfl, h, q⟩
end Fw

namespace Fw
open PySem PySem.Spec PyProof.Rows L2
section
variable {H F0 H0 F : Hp} {L : List (Addr × HO)} {C : List Ck} {te : TE} {Q : VK} {g : TG} {K : PySem.W.Frag} {σ : L2.St} {a : Addr} {xs : List V}
/-- [te for x in reversed(xs)] -/
theorem w_lcRev {tt : TT} {vs : List Nat} (O : Own F0 H0 F H L C) (hx : SqL K H a xs) (hl : ∀ {F' H' acc D}, Own F0 H0 F' H' ((D, .lst acc) :: L) C → Same F F' → SqL K H' a xs) (Iv : Nat → List V → Hp → Prop) (h0 : Iv 0 [] F)
    (turn : ∀ (i : Nat) x acc D F' H', i < xs.length → xs[xs.length - 1 - i]? = some x → Iv i acc F' → Same F F' → Own F0 H0 F' H' ((D, .lst acc) :: L) C → g x (wipe σ vs) H' fun σ2 H2 => wipe σ2 vs = wipe σ vs ∧ tt σ2 H2 fun b H3 =>
      if b = true then te σ2 H3 (Put D (Btw F0 H0 F L C D (Iv (i + 1)))) else Btw F0 H0 F L C D (Iv (i + 1)) H3)
    (done : ∀ acc D F' H', Iv xs.length acc F' → Same F F' → Own F0 H0 F' H' ((D, .lst acc) :: L) C → Q (.ref D) H') :
    FoR K [.ref a] H fun J H1 => LcEnd J g tt te vs σ H1 Q := by
  refine ⟨a, xs, rfl, hx, lc_any xs.length (fun i x => xs[xs.length - 1 - i]? = some x) O Iv h0 (fun i H' F' acc D hi O' sF => ?_) (fun H' F' acc D O' sF => Nat.le_refl _) (fun i x H' H2 F' acc D hi O' sF hy => ⟨hy.1, hy.2 xs (hl O' sF)⟩) (fun i x acc D F' H' hi hY => turn i x acc D F' H' hi hY) done⟩
  exact ⟨hi, xs, _, hl O' sF, List.getElem?_eq_getElem (by omega)⟩
theorem q_dec1 {c d : Nat} : decide ([c] = [d]) = decide (c = d) := decide_eq_decide.mpr ⟨fun h => (List.cons.inj h).1, fun h => by rw [h]⟩
end
end Fw

namespace Fw
open PySem PySem.Spec PyProof.Rows L2
/-! ### guards of the tactic -/
theorem h_NewL {xs : List V} {H : Hp} {Q : VK} (h : NewL xs H Q) : NewL xs H Q := h
theorem h_NewT {xs : List V} {H : Hp} {Q : VK} (h : NewT xs H Q) : NewT xs H Q := h
theorem h_Ty {K : PySem.W.Frag} {T : String} {x : V} {H : Hp} {P : Prop} (h : tyV K T x H ∧ P) : tyV K T x H ∧ P := h
theorem h_App {x : V} {vs : List V} {H : Hp} {Q : VK} (h : rAppend x vs H Q) : rAppend x vs H Q := h
theorem h_Len {K : PySem.W.Frag} {vs : List V} {H : Hp} {Q : VK} (h : rLenQ K vs H Q) : rLenQ K vs H Q := h
theorem h_Ix {K : PySem.W.Frag} {x y : V} {H : Hp} {Q : VK} (h : rIxL K x y H Q) : rIxL K x y H Q := h
theorem h_IxS {x y : V} {H : Hp} {Q : VK} (h : rIxSg x y H Q) : rIxSg x y H Q := h
theorem h_MulS {x y : V} {H : Hp} {Q : VK} (h : rMulS x y H Q) : rMulS x y H Q := h
theorem h_Isi {K : PySem.W.Frag} {vs : List V} {H : Hp} {Q : VK} (h : rIsi K vs H Q) : rIsi K vs H Q := h
theorem h_Set {o i v : V} {H : Hp} {R : Hp → Prop} (h : rSetL o i v H R) : rSetL o i v H R := h
theorem h_Get {K : PySem.W.Frag} {x y : V} {H : Hp} {Q : VK} (h : rGetL K x y H Q) : rGetL K x y H Q := h
theorem h_ListQ {K : PySem.W.Frag} {vs : List V} {H : Hp} {Q : VK} (h : rListQ K vs H Q) : rListQ K vs H Q := h
theorem h_ListS {vs : List V} {H : Hp} {Q : VK} (h : rListS vs H Q) : rListS vs H Q := h
theorem h_Rep {x y : V} {H : Hp} {Q : VK} (h : rRep x y H Q) : rRep x y H Q := h
theorem h_SlL {K : PySem.W.Frag} {x : V} {lo hi : Option Int} {H : Hp} {Q : VK} (h : rSlL K x lo hi H Q) : rSlL K x lo hi H Q := h
theorem h_Cat {x y : V} {H : Hp} {Q : VK} (h : rCat x y H Q) : rCat x y H Q := h
theorem h_Ext {x : V} {vs : List V} {H : Hp} {Q : VK} (h : rExtend x vs H Q) : rExtend x vs H Q := h
theorem h_Rev {x : V} {vs : List V} {H : Hp} {Q : VK} (h : rReverse x vs H Q) : rReverse x vs H Q := h
theorem h_Idx {x : V} {vs : List V} {H : Hp} {Q : VK} (h : rIdxS x vs H Q) : rIdxS x vs H Q := h
theorem h_Gtup {K : PySem.W.Frag} {n : Nat} {tg : TGs} {v : V} {σ : L2.St} {H : Hp} {R : L2.St → Hp → Prop} (h : gTup K n tg v σ H R) : gTup K n tg v σ H R := h
theorem h_EqD {K : PySem.W.Frag} {x y : V} {H : Hp} {Q : VK} (h : rEqD K x y H Q) : rEqD K x y H Q := h
theorem h_NeD {K : PySem.W.Frag} {x y : V} {H : Hp} {Q : VK} (h : rNeD K x y H Q) : rNeD K x y H Q := h
section
variable {H F0 H0 F : Hp} {L : List (Addr × HO)} {C : List Ck} {Q : VK} {v : V} {a : Addr} {xs : List V} {i : Int} {q1 q2 q3 q4 : Addr × HO}
theorem w_app3 (O : Own F0 H0 F H (q1 :: q2 :: q3 :: (a, .lst xs) :: L) C) (k : ∀ H', Own F0 H0 F H' (q1 :: q2 :: q3 :: (a, .lst (xs ++ [v])) :: L) C → Q .non H') (hz : xs.length < sizeLine) : rAppend (.ref a) [v] H Q := w_app (j := 3) O rfl k hz
theorem w_app4 (O : Own F0 H0 F H (q1 :: q2 :: q3 :: q4 :: (a, .lst xs) :: L) C) (k : ∀ H', Own F0 H0 F H' (q1 :: q2 :: q3 :: q4 :: (a, .lst (xs ++ [v])) :: L) C → Q .non H') (hz : xs.length < sizeLine) : rAppend (.ref a) [v] H Q := w_app (j := 4) O rfl k hz
theorem w_set3 {R : Hp → Prop} (O : Own F0 H0 F H (q1 :: q2 :: q3 :: (a, .lst xs) :: L) C) (k : ∀ H', Own F0 H0 F H' (q1 :: q2 :: q3 :: (a, .lst (xs.set i.toNat v)) :: L) C → R H') (h : 0 ≤ i ∧ i < xs.length) : rSetL (.ref a) (.int i) v H R := w_set (j := 3) O rfl h k
end
end Fw

namespace Fw
open PySem PySem.Spec PyProof.Rows L2
/-! ### equal data; numbers as texts; split -/
section
variable {K : PySem.W.Frag} {H : Hp} {Q : VK} {x y : V} {d : PyData}
theorem w_eqD1 (ha : Dp K H x d) (hb : Dp K H y d) (hs : SeqAt.shaped d = true) (q : Q (.bl true) H) : rEqD K x y H Q :=
  ⟨d, d, ha, hb, hs, hs, by rw [SeqAt.eqv_refl d (SeqAt.canLay_of_shaped hs)]; exact q⟩
theorem w_neD1 (ha : Dp K H x d) (hb : Dp K H y d) (hs : SeqAt.shaped d = true) (q : Q (.bl false) H) : rNeD K x y H Q :=
  ⟨d, d, ha, hb, hs, hs, by rw [SeqAt.eqv_refl d (SeqAt.canLay_of_shaped hs)]; exact q⟩
/-- data of a small depth, its texts well made -/
structure Shp (n : Nat) (d : PyData) : Prop where
  lay : d.canLay0 = true
  dep : d.depth ≤ n
theorem Shp.shaped {n : Nat} (h : Shp n d) (hn : n ≤ 64) : SeqAt.shaped d = true := Bool.and_eq_true_iff.mpr ⟨h.lay, decide_eq_true (Nat.le_trans h.dep hn)⟩
theorem shp_int (i : Int) : Shp 0 (.int i) := ⟨rfl, Nat.le_refl _⟩
theorem shp_bool (b : Bool) : Shp 0 (.bool b) := ⟨rfl, Nat.le_refl _⟩
theorem shp_non : Shp 0 .none := ⟨rfl, Nat.le_refl _⟩
theorem shp_str {l : List Nat} (h : ∀ c ∈ l, c < 1114112) : Shp 0 (.str (S l)) := by
  refine ⟨?_, Nat.le_refl _⟩
  show PyData.strOk (S l) = true
  unfold PyData.strOk S
  rw [Array.all_eq_true_iff_forall_mem]
  intro c hc
  exact decide_eq_true (h c (by simpa using hc))
theorem shp_all {n : Nat} : ∀ {ds : List PyData}, (∀ d ∈ ds, Shp n d) → PyData.canLayAll0 ds = true ∧ PyData.depthAll ds ≤ n
  | [], _ => ⟨rfl, Nat.zero_le _⟩
  | d :: ds, h => by
    obtain ⟨h1, h2⟩ := shp_all (ds := ds) fun e he => h e (List.mem_cons_of_mem _ he)
    have h3 := h d List.mem_cons_self
    refine ⟨Bool.and_eq_true_iff.mpr ⟨h3.lay, h1⟩, ?_⟩
    show max (PyData.depth d) (PyData.depthAll ds) ≤ n
    have := h3.dep
    omega
theorem shp_list {n : Nat} {ds : List PyData} (h : ∀ d ∈ ds, Shp n d) : Shp (n + 1) (.list ds) := ⟨(shp_all h).1, Nat.succ_le_succ (shp_all h).2⟩
theorem shp_tuple {n : Nat} {ds : List PyData} (h : ∀ d ∈ ds, Shp n d) : Shp (n + 1) (.tuple ds) := ⟨(shp_all h).1, Nat.succ_le_succ (shp_all h).2⟩
theorem dpAll_strs : ∀ ls : List (List Nat), DpAll K H (ls.map vS) (ls.map fun l => PyData.str (S l))
  | [] => .nil
  | l :: r => .cons (.str (S l)) (dpAll_strs r)
theorem dpAll_map {α : Type} {f : α → V} {g : α → PyData} : ∀ {as : List α}, (∀ a ∈ as, Dp K H (f a) (g a)) → DpAll K H (as.map f) (as.map g)
  | [], _ => .nil
  | a :: as, h => .cons (h a List.mem_cons_self) (dpAll_map fun b hb => h b (List.mem_cons_of_mem _ hb))
end
section
variable {X : Cx}
/-- a part of a record: a number from 0 on, or a text -/
inductive Fld where
  | n (k : Nat)
  | s (l : List Nat)
def Fld.v : Fld → V
  | .n k => .int (k : Nat)
  | .s l => vS l
def Fld.t : Fld → List Nat
  | .n k => TL.numL k
  | .s l => l
def Fld.d : Fld → PyData
  | .n k => .int (k : Nat)
  | .s l => .str (S l)
theorem num_S (k : Nat) : Str.ofString (toString ((k : Nat) : Int)) = S (TL.numL k) := by
  rw [S_of (Str.ofString (toString ((k : Nat) : Int)))]
  rw [S_inj]
  exact TL.tl_num k
def rStr : List V → Hp → VK → Prop := fun vs H Q => ∃ f : Fld, vs = [f.v] ∧ (∀ k, f = .n k → k < 10 ^ 20) ∧ Q (vS f.t) H
theorem k_str : CallR X (.type "str") rStr := by
  intro pins s σ H vs us Q I r h
  obtain ⟨f, rfl, hs, q⟩ := h
  cases f with
  | n k =>
    refine call_str_int pins s σ H _ us Q I r ⟨(k : Int), rfl, ?_, ?_⟩
    · have h1 := hs k rfl
      have h2 : (k : Int).natAbs = k := rfl
      rw [h2]
      by_cases h0 : k = 0
      · subst h0
        decide
      · exact Nat.lt_of_lt_of_le ((Nat.log2_lt h0).mpr (Nat.lt_of_lt_of_le h1 (by decide : 10 ^ 20 ≤ 2 ^ 67))) (by decide)
    · show Q (.str (Str.ofString (toString ((k : Nat) : Int)))) H
      rw [num_S]
      exact q
  | s l => exact SkE.call_str_str pins s σ H _ us Q I r ⟨S l, rfl, q⟩
def rIntS : List V → Hp → VK → Prop := fun vs H Q => ∃ (l : List Nat) (n : Int), vs = [vS l] ∧ intText? (S l) = some n ∧ l.length ≤ 640 ∧ Q (.int n) H
theorem k_intS : CallR X (.type "int") rIntS := fun pins s σ H vs us Q I r ⟨l, n, e, h1, h2, q⟩ => call_int_str pins s σ H vs us Q I r ⟨S l, n, e, h1, by rw [S_len]; exact h2, q⟩
theorem int_numL {k : Nat} (h : k < 10 ^ 20) : intText? (S (TL.numL k)) = some (k : Int) ∧ (TL.numL k).length ≤ 640 := by
  have hl := TL.numL_len (k := 20) (by decide) h
  have e := TL.int_num (n := k) (by omega)
  rw [num_S] at e
  exact ⟨e, by omega⟩
/-- text.split(sign) -/
def rSplit : V → List V → Hp → VK → Prop := fun x xs H Q => ∃ (c : Nat) (ls : List (List Nat)), x = vS (joinN [c] ls) ∧ xs = [vS [c]] ∧ c < 256 ∧ ls ≠ [] ∧ (∀ p ∈ ls, c ∉ p) ∧ (joinN [c] ls).length + 2 ≤ sizeLine ∧ NewL (ls.map vS) H Q
theorem mt_splitN : MtR X "str.split" rSplit := by
  intro pins s σ H x xs v us Q I rx rs h
  obtain ⟨c, ls, e1, e2, hc, hne, hp, hz, n⟩ := h
  refine mt_split pins s σ H x xs v us Q I rx rs ⟨S (joinN [c] ls), S [c], e1, e2, rfl, by rw [S_len]; exact hz, ?_⟩
  have e3 : Txt.split (S (joinN [c] ls)) (S [c]) = ls.map S := by
    rw [← txt_join]
    refine TL.split_join (s := c) (S := []) rfl ?_ (fun e => hne (List.map_eq_nil_iff.mp e)) fun p h => ?_
    · show (#[c] : Array Nat).all (· < 256) = true
      simp [hc]
    · obtain ⟨z, hz, rfl⟩ := List.mem_map.mp h
      show c ∉ (S z).cps.toList
      rw [S_list]
      exact hp z hz
  rw [e3]
  intro p np
  rw [List.map_map]
  exact n.2 p np
theorem pe_splitL {o e : Expr} {apos pos : Pos} {to te : TE} (ho : PE X o to) (he : PE X e te) (hs : starEach [e] X.env = [(false, eval e X.env)] := by rfl) (hbase : attributeBase o "split" X.env (eval o X.env) = eval o X.env := by rfl) (hline : (apos.endLine == pos.line) = true := by rfl) :
    PE X (.Call (.Attribute o "split" apos) [e] [] pos) (tM1 rSplit to te) := pe_m1 PySem.F.slot_str_split PySem.F.type_str_split mt_splitN ho he hs hbase hline
end
section
variable {H F0 H0 F : Hp} {L : List (Addr × HO)} {C : List Ck} {Q : VK} {K : PySem.W.Frag} {a : Addr} {xs : List V}
theorem w_str {f : Fld} (q : Q (vS f.t) H) (hs : ∀ k, f = .n k → k < 10 ^ 20) : rStr [f.v] H Q := ⟨f, rfl, hs, q⟩
theorem w_strN {k : Nat} (q : Q (vS (TL.numL k)) H) (hs : k < 10 ^ 20) : rStr [.int (k : Nat)] H Q := ⟨.n k, rfl, fun _ e => by cases e; exact hs, q⟩
theorem w_intS {l : List Nat} {n : Int} (q : Q (.int n) H) (h : intText? (S l) = some n ∧ l.length ≤ 640) : rIntS [vS l] H Q := ⟨l, n, rfl, h.1, h.2, q⟩
theorem w_split {c : Nat} {ls : List (List Nat)} (O : Own F0 H0 F H L C) (hc : c < 256) (hne : ls ≠ []) (hp : ∀ p ∈ ls, c ∉ p) (hz : (joinN [c] ls).length + 2 ≤ sizeLine) (k : ∀ p H', Own F0 H0 F H' ((p, .lst (ls.map vS)) :: L) C → Q (.ref p) H') (hl : ls.length ≤ sizeLine) : rSplit (vS (joinN [c] ls)) [vS [c]] H Q :=
  ⟨c, ls, rfl, rfl, hc, hne, hp, hz, w_newL O k (by rw [List.length_map]; exact hl)⟩
theorem w_slT {lo hi : Option Int} (O : Own F0 H0 F H L C) (hs : SqT K H a xs) (h : ¬ (HT.sIx xs.length 0 lo = 0 ∧ HT.sIx xs.length xs.length hi = xs.length)) (k : ∀ p F' H', Own F0 H0 F' H' L (cO p (.tup (cutV xs lo hi)) :: C) → Q (.ref p) H') : rSlT K (.ref a) lo hi H Q := ⟨a, xs, rfl, hs, h, fun p np => k p _ _ (O.ice np _)⟩
theorem w_all {bs : List Bool} (hs : SqL K H a (bs.map V.bl)) (q : Q (.bl (bs.all id)) H) : rAll K [.ref a] H Q := ⟨a, bs, rfl, hs, q⟩
theorem w_any {bs : List Bool} (hs : SqL K H a (bs.map V.bl)) (q : Q (.bl (bs.any id)) H) : rAny K [.ref a] H Q := ⟨a, bs, rfl, hs, q⟩
theorem w_sum {ns : List Int} (hs : SqL K H a (ns.map V.int)) (q : Q (.int ns.sum) H) : rSum K [.ref a] H Q := ⟨a, ns, rfl, hs, q⟩
end
end Fw

namespace Fw
open PySem PySem.Spec PyProof.Rows L2
/-! ### signs in texts, least and greatest of two, tests of truth -/
section
variable {X : Cx} {K : PySem.W.Frag}
def rInSg : R2 := fun x y H Q => ∃ (c : Nat) (l : List Nat), x = vS [c] ∧ y = vS l ∧ Q (.bl (decide (c ∈ l))) H
def rNotInSg : R2 := fun x y H Q => ∃ (c : Nat) (l : List Nat), x = vS [c] ∧ y = vS l ∧ Q (.bl (!decide (c ∈ l))) H
theorem k_inS : OpR X (compareOp .In) rInSg := fun pins s σ H x y u v Q I rx ry ⟨c, l, e1, e2, q⟩ => op_in_sign pins s σ H x y u v Q I rx ry ⟨c, S l, e1, e2, by rw [S_list]; exact q⟩
theorem k_notInS : OpR X (compareOp .NotIn) rNotInSg := fun pins s σ H x y u v Q I rx ry ⟨c, l, e1, e2, q⟩ => op_notIn_sign pins s σ H x y u v Q I rx ry ⟨c, S l, e1, e2, by rw [S_list]; exact q⟩
def rMin2' : List V → Hp → VK → Prop := fun xs H Q => ∃ i j : Int, xs = [.int i, .int j] ∧ Q (.int (min i j)) H
def rMax2' : List V → Hp → VK → Prop := fun xs H Q => ∃ i j : Int, xs = [.int i, .int j] ∧ Q (.int (max i j)) H
theorem min2_ (hc : X.calm = true) : CallR X (.builtin "min") rMin2' := by
  intro pins s σ H vs us Q I r h
  obtain ⟨i, j, e, q⟩ := h
  refine call_min2 hc pins s σ H vs us Q I r ⟨i, j, e, ?_⟩
  have e2 : (if j < i then j else i) = min i j := by split <;> omega
  rw [e2]
  exact q
theorem max2_ (hc : X.calm = true) : CallR X (.builtin "max") rMax2' := by
  intro pins s σ H vs us Q I r h
  obtain ⟨i, j, e, q⟩ := h
  refine call_max2 hc pins s σ H vs us Q I r ⟨i, j, e, ?_⟩
  have e2 : (if j > i then j else i) = max i j := by split <;> omega
  rw [e2]
  exact q
end
section
variable {H F0 H0 F : Hp} {L : List (Addr × HO)} {C : List Ck} {Q : VK} {K : PySem.W.Frag} {a : Addr} {xs : List V}
theorem q_inSg {c : Nat} {l : List Nat} : rInSg (vS [c]) (vS l) H Q = Q (.bl (decide (c ∈ l))) H := propext ⟨fun ⟨c', l', e1, e2, q⟩ => by
  have e1 := List.cons.inj (S_inj.mp (V.str.inj e1))
  have e2 := S_inj.mp (V.str.inj e2)
  rw [e1.1, e2]
  exact q, fun q => ⟨c, l, rfl, rfl, q⟩⟩
theorem q_notInSg {c : Nat} {l : List Nat} : rNotInSg (vS [c]) (vS l) H Q = Q (.bl (!decide (c ∈ l))) H := propext ⟨fun ⟨c', l', e1, e2, q⟩ => by
  have e1 := List.cons.inj (S_inj.mp (V.str.inj e1))
  have e2 := S_inj.mp (V.str.inj e2)
  rw [e1.1, e2]
  exact q, fun q => ⟨c, l, rfl, rfl, q⟩⟩
theorem q_min2 {i j : Int} : rMin2' [.int i, .int j] H Q = Q (.int (min i j)) H := propext ⟨fun ⟨_, _, e, q⟩ => by cases e; exact q, fun q => ⟨i, j, rfl, q⟩⟩
theorem q_max2 {i j : Int} : rMax2' [.int i, .int j] H Q = Q (.int (max i j)) H := propext ⟨fun ⟨_, _, e, q⟩ => by cases e; exact q, fun q => ⟨i, j, rfl, q⟩⟩
theorem w_ixStrs {ls : List (List Nat)} {i : Int} (q : Q (vS (ls.getD i.toNat [])) H) (hs : SqL K H a (ls.map vS)) (h : 0 ≤ i ∧ i < ls.length) : rIxL K (.ref a) (.int i) H Q := by
  refine w_ixL q hs ?_
  rw [atI_get (xs := ls.map vS) (d := vS []) (i := i) (by rw [List.length_map]; exact h)]
  congr 1
  rw [List.getD_eq_getElem?_getD, List.getD_eq_getElem?_getD, List.getElem?_map]
  cases ls[i.toNat]? <;> rfl
theorem Own.perm {L' : List (Addr × HO)} (O : Own F0 H0 F H L C) (h : L'.Perm L) : Own F0 H0 F H L' C := ⟨O.f0, O.fh, O.hh, O.new, fun q hq => O.own q (h.subset hq), (h.map Prod.fst).nodup_iff.mpr O.nd, O.cs⟩
theorem Own.swap {q q' : Addr × HO} (O : Own F0 H0 F H (q :: q' :: L) C) : Own F0 H0 F H (q' :: q :: L) C := O.perm (List.Perm.swap _ _ _)
/-- while, its turn told as it stands -/
theorem w_wh {tb : TS} {nx bk ct : L2.St → Hp → Prop} {rt : VK} {σ : L2.St} (Pv : Nat → L2.St → Hp → Prop) (m0 : Nat) (h0 : Pv m0 σ H) {c : TT}
    (hs : ∀ m σ' H', Pv m σ' H' → c σ' H' fun b H1 => if b = true then ∃ N : L2.St → Hp → Prop, (∀ σ2 H2, N σ2 H2 → ∃ m', m' < m ∧ Pv m' σ2 H2) ∧ tb ⟨N, rt, nx, N⟩ σ' H1 else nx σ' H1) : tWhile c tb ⟨nx, rt, bk, ct⟩ σ H := ⟨Pv, ⟨m0, h0⟩, fun m σ' H' p => hs m σ' H' p⟩
/-- its body -/
theorem w_bd {tb : TS} {nx : L2.St → Hp → Prop} {rt : VK} {σ : L2.St} {Pn : L2.St → Hp → Prop} (h : tb ⟨Pn, rt, nx, Pn⟩ σ H) : ∃ N : L2.St → Hp → Prop, (∀ σ2 H2, N σ2 H2 → Pn σ2 H2) ∧ tb ⟨N, rt, nx, N⟩ σ H := ⟨Pn, fun _ _ z => z, h⟩
/-- the frozen part has grown from F -/
def cF (F : Hp) : Ck := ⟨fun F' => Same F F', fun s h => h.trans s⟩
/-- a list of texts, against itself -/
theorem dp_strs {ls : List (List Nat)} (h : SqL K H a (ls.map vS)) : Dp K H (.ref a) (.list (ls.map fun l => PyData.str (S l))) := .lst h (dpAll_strs ls)
theorem q_wipe3 {σ : L2.St} {s s' s'' : Str} {n n' n'' : Nat} : wipe σ (List.map (fun x => x.snd) [(s, n), (s', n'), (s'', n'')]) = ((σ.set n'' none).set n' none).set n none := rfl
theorem q_wipe4 {σ : L2.St} {s s' s'' s3 : Str} {n n' n'' n3 : Nat} : wipe σ (List.map (fun x => x.snd) [(s, n), (s', n'), (s'', n''), (s3, n3)]) = (((σ.set n3 none).set n'' none).set n' none).set n none := rfl
theorem w_lcR3 {g : TG} {te : TE} {σ : L2.St} {tt : TT} {vs : List Nat} {b e c : Int} {n : Nat} (O : Own F0 H0 F H L C) (hn : RgC b e c n) (Iv : Nat → List V → Hp → Prop) (h0 : Iv 0 [] F)
    (turn : ∀ (i : Nat) acc D F' H', i < n → Iv i acc F' → Same F F' → Own F0 H0 F' H' ((D, .lst acc) :: L) C → g (.int (b + (i : Nat) * c)) (wipe σ vs) H' fun σ2 H2 => wipe σ2 vs = wipe σ vs ∧ tt σ2 H2 fun b H3 =>
      if b = true then te σ2 H3 (Put D (Btw F0 H0 F L C D (Iv (i + 1)))) else Btw F0 H0 F L C D (Iv (i + 1)) H3)
    (done : ∀ acc D F' H', Iv n acc F' → Same F F' → Own F0 H0 F' H' ((D, .lst acc) :: L) C → Q (.ref D) H') :
    Rg3 [.int b, .int e, .int c] H fun J H1 => LcEnd J g tt te vs σ H1 Q := by
  refine ⟨b, e, c, n, rfl, hn, lc_any n (fun i x => x = .int (b + (i : Nat) * c)) O Iv h0 (fun i H' F' acc D hi O' sF => hi) (fun H' F' acc D O' sF => Nat.le_refl _) (fun i x H' H2 F' acc D hi O' sF hy => hy) (fun i x acc D F' H' hi hY => ?_) done⟩
  intro h1 h2 h3
  rw [show x = .int (b + (i : Nat) * c) from hY]
  exact turn i acc D F' H' hi h1 h2 h3
theorem rgc_pos {n c : Nat} (hc : 0 < c ∧ c < 1073741824) (hn : n < 2 ^ 61) : RgC 0 (n : Int) (c : Int) ((n + c - 1) / c) := by
  have hs : Builtin.Range.rangeSize 0 (n : Int) (c : Int) = (((n + c - 1) / c : Nat) : Int) := by
    unfold Builtin.Range.rangeSize
    rw [if_pos (by omega)]
    by_cases h : n = 0
    · subst h
      rw [if_neg (by omega), Nat.div_eq_of_lt (by omega)]
      rfl
    · rw [if_pos (by omega), show n + c - 1 = (n - 1) + c by omega, Nat.add_div_right _ hc.1]
      have e : (n : Int) - 0 - 1 = ((n - 1 : Nat) : Int) := by omega
      rw [e]
      rfl
  refine ⟨by omega, by omega, ?_, hs⟩
  have hle : (n + c - 1) / c ≤ n := by
    rw [Nat.div_le_iff_le_mul hc.1]
    have : n ≤ n * c := Nat.le_mul_of_pos_right _ hc.1
    omega
  have hle2 : (n + c - 1) / c * c ≤ n + c - 1 := Nat.div_mul_le_self _ _
  have hle3 : (((n + c - 1) / c : Nat) : Int) * (c : Int) ≤ (n : Int) + c - 1 := by
    rw [← Int.natCast_mul]
    omega
  unfold Builtin.Range.small
  rw [hs]
  simp only [Builtin.Range.rangeFitsLong, Bool.and_eq_true, Bool.or_eq_true, decide_eq_true_eq, beq_iff_eq]
  generalize (n + c - 1) / c = d at hle ⊢
  refine ⟨⟨⟨⟨⟨by omega, by omega⟩, by omega, by omega⟩, by omega, by omega⟩, by omega, by omega⟩, .inr ?_⟩
  rw [if_pos (by omega), Bool.and_eq_true, decide_eq_true_eq, decide_eq_true_eq]
  omega
theorem sum_ones : ∀ {ls : List (List Nat)}, (∀ l ∈ ls, l.length = 1) → (ls.map List.length).sum = ls.length
  | [], _ => rfl
  | l :: ls, h => by
    rw [List.map_cons, List.sum_cons, h l List.mem_cons_self, sum_ones fun x hx => h x (List.mem_cons_of_mem _ hx), List.length_cons]
    omega
theorem joinN_ones : ∀ l : List Nat, joinN [] (l.map fun c => [c]) = l
  | [] => rfl
  | [c] => rfl
  | c :: d :: l => by
    show [c] ++ [] ++ joinN [] ((d :: l).map fun c => [c]) = _
    rw [joinN_ones (d :: l)]
    rfl
end
end Fw

namespace Fw
open PySem PySem.Spec PyProof.Rows L2
/-! ### comprehensions that make objects of their own -/
section
variable {F0 H0 F H : Hp} {L : List (Addr × HO)} {C : List Ck} {Q : VK} {K : PySem.W.Frag} {g : TG} {te : TE} {σ : L2.St} {tt : TT} {vs : List Nat} {y : V}
/-- what holds between two turns: M are the objects made so far -/
def BtwG (F0 H0 F : Hp) (L : List (Addr × HO)) (C : List Ck) (D : Addr) (Iv : List V → List (Addr × HO) → Hp → Prop) (H' : Hp) : Prop := ∃ F' acc M, Own F0 H0 F' H' ((D, .lst acc) :: (M ++ L)) C ∧ Same F F' ∧ Iv acc M F'
theorem w_putG {Iv : List V → List (Addr × HO) → Hp → Prop} {D : Addr} {acc : List V} {M : List (Addr × HO)} {F1 : Hp} (O : Own F0 H0 F1 H ((D, .lst acc) :: (M ++ L)) C) (sF : Same F F1) (hI : Iv (acc ++ [y]) M F1) (hz : acc.length < sizeLine) : Put D (BtwG F0 H0 F L C D Iv) y H :=
  ⟨acc, O.at_ 0, hz, F1, _, M, O.set 0 rfl _, sF, hI⟩
theorem lc_anyG {J : It} (n : Nat) (Y : Nat → V → Prop) (O : Own F0 H0 F H L C) (Iv : Nat → List V → List (Addr × HO) → Hp → Prop) (h0 : Iv 0 [] [] F)
    (go : ∀ i H' F' acc M D, i < n → Own F0 H0 F' H' ((D, .lst acc) :: (M ++ L)) C → Same F F' → J.go i H') (stop : ∀ H' F' acc M D, Own F0 H0 F' H' ((D, .lst acc) :: (M ++ L)) C → Same F F' → J.stop n H')
    (yld : ∀ i x H' H2 F' acc M D, i < n → Own F0 H0 F' H' ((D, .lst acc) :: (M ++ L)) C → Same F F' → J.yld i H' x H2 → H2 = H' ∧ Y i x)
    (turn : ∀ (i : Nat) x acc M D F' H', i < n → Y i x → Iv i acc M F' → Same F F' → Own F0 H0 F' H' ((D, .lst acc) :: (M ++ L)) C → g x (wipe σ vs) H' fun σ2 H2 => wipe σ2 vs = wipe σ vs ∧ tt σ2 H2 fun b H3 =>
      if b = true then te σ2 H3 (Put D (BtwG F0 H0 F L C D (Iv (i + 1)))) else BtwG F0 H0 F L C D (Iv (i + 1)) H3)
    (done : ∀ acc M D F' H', Iv n acc M F' → Same F F' → Own F0 H0 F' H' ((D, .lst acc) :: (M ++ L)) C → Q (.ref D) H') :
    LcEnd J g tt te vs σ H Q := by
  intro D hD
  refine ⟨fun i k H' => k = n - i ∧ i ≤ n ∧ BtwG F0 H0 F L C D (Iv i) H', ⟨n, by omega, Nat.zero_le _, F, [], [], O.alloc hD _, Same.refl _, h0⟩, ?_⟩
  rintro i k H' ⟨rfl, hi, F', acc, M, O', sF, hI⟩
  by_cases hlt : i < n
  · refine .inr ⟨go i H' F' acc M D hlt O' sF, BtwG F0 H0 F L C D (Iv (i + 1)), fun H2 p' => ⟨n - (i + 1), by omega, rfl, hlt, p'⟩, fun x H2 hy => ?_⟩
    obtain ⟨rfl, hY⟩ := yld i x H' H2 F' acc M D hlt O' sF hy
    exact turn i x acc M D F' _ hlt hY hI sF O'
  · have e : i = n := by omega
    subst e
    exact .inl ⟨stop H' F' acc M D O' sF, done acc M D F' H' hI sF O'⟩
theorem w_lcR1G {n : Int} (O : Own F0 H0 F H L C) (hn : -(2 ^ 62) ≤ n ∧ n < 2 ^ 62) (Iv : Nat → List V → List (Addr × HO) → Hp → Prop) (h0 : Iv 0 [] [] F)
    (turn : ∀ (i : Nat) acc M D F' H', (i : Int) < n → Iv i acc M F' → Same F F' → Own F0 H0 F' H' ((D, .lst acc) :: (M ++ L)) C → g (.int (i : Nat)) (wipe σ vs) H' fun σ2 H2 => wipe σ2 vs = wipe σ vs ∧ tt σ2 H2 fun b H3 =>
      if b = true then te σ2 H3 (Put D (BtwG F0 H0 F L C D (Iv (i + 1)))) else BtwG F0 H0 F L C D (Iv (i + 1)) H3)
    (done : ∀ acc M D F' H', Iv n.toNat acc M F' → Same F F' → Own F0 H0 F' H' ((D, .lst acc) :: (M ++ L)) C → Q (.ref D) H') :
    Rg1 [.int n] H fun J H1 => LcEnd J g tt te vs σ H1 Q := by
  refine ⟨n, rfl, hn.1, hn.2, lc_anyG n.toNat (fun i x => x = .int (i : Nat)) O Iv h0 (fun i H' F' acc M D hi O' sF => hi) (fun H' F' acc M D O' sF => Nat.le_refl _) (fun i x H' H2 F' acc M D hi O' sF hy => ⟨hy.1, by rw [hy.2, Int.zero_add]⟩) (fun i x acc M D F' H' hi hY => ?_) done⟩
  intro h1 h2 h3
  rw [show x = .int (i : Nat) from hY]
  exact turn i acc M D F' H' (by omega) h1 h2 h3
theorem w_lcLG {a : Addr} {xs : List V} (O : Own F0 H0 F H L C) (hx : SqL K H a xs) (hl : ∀ {F' H' acc M D}, Own F0 H0 F' H' ((D, .lst acc) :: (M ++ L)) C → Same F F' → SqL K H' a xs) (Iv : Nat → List V → List (Addr × HO) → Hp → Prop) (h0 : Iv 0 [] [] F)
    (turn : ∀ (i : Nat) x acc M D F' H', xs[i]? = some x → Iv i acc M F' → Same F F' → Own F0 H0 F' H' ((D, .lst acc) :: (M ++ L)) C → g x (wipe σ vs) H' fun σ2 H2 => wipe σ2 vs = wipe σ vs ∧ tt σ2 H2 fun b H3 =>
      if b = true then te σ2 H3 (Put D (BtwG F0 H0 F L C D (Iv (i + 1)))) else BtwG F0 H0 F L C D (Iv (i + 1)) H3)
    (done : ∀ acc M D F' H', Iv xs.length acc M F' → Same F F' → Own F0 H0 F' H' ((D, .lst acc) :: (M ++ L)) C → Q (.ref D) H') :
    FoL K (.ref a) H fun J H1 => LcEnd J g tt te vs σ H1 Q := by
  refine ⟨a, rfl, ⟨xs, hx⟩, lc_anyG xs.length (fun i x => xs[i]? = some x) O Iv h0 (fun i H' F' acc M D hi O' sF => ?_) (fun H' F' acc M D O' sF => ⟨xs, hl O' sF, Nat.le_refl _⟩) (fun i x H' H2 F' acc M D hi O' sF hy => ⟨hy.1, hy.2 xs (hl O' sF)⟩) (fun i x acc M D F' H' _ hY => turn i x acc M D F' H' hY) done⟩
  exact ⟨xs, _, hl O' sF, List.getElem?_eq_getElem hi⟩
/-! ### least of three -/
def rMin3' : List V → Hp → VK → Prop := fun xs H Q => ∃ i j k : Int, xs = [.int i, .int j, .int k] ∧ Q (.int (min (min i j) k)) H
theorem min3_ {X : Cx} (hc : X.calm = true) : CallR X (.builtin "min") rMin3' := by
  intro pins s σ H vs us Q I r h
  obtain ⟨i, j, k, e, q⟩ := h
  refine call_min3Nu hc pins s σ H vs us Q I r ⟨.int i, .int j, .int k, .int (min (min i j) k), e, ?_, q⟩
  have h2 : ∀ a b : Int, nuMin2 (.int a) (.int b) = some (.int (min a b)) := fun a b => by
    show some (if decide (b < a) = true then V.int b else V.int a) = _
    by_cases h : b < a
    · rw [decide_eq_true h, if_pos rfl, show min a b = b by omega]
    · rw [decide_eq_false h, if_neg Bool.false_ne_true, show min a b = a by omega]
  show (nuMin2 (.int i) (.int j)).bind (fun m => nuMin2 m (.int k)) = _
  rw [h2]
  exact h2 _ _
theorem q_min3 {i j k : Int} {Q : VK} {H : Hp} : rMin3' [.int i, .int j, .int k] H Q = Q (.int (min (min i j) k)) H := propext ⟨fun ⟨_, _, _, e, q⟩ => by cases e; exact q, fun q => ⟨i, j, k, rfl, q⟩⟩
/-! ### grids: rows of their own, addresses A, cells M -/
def row (M : Nat → Nat → Int) (e i : Nat) : List V := (List.range e).map fun j => .int (M i j)
def fam (A : Nat → Addr) (M : Nat → Nat → Int) (n e : Nat) : List (Addr × HO) := (List.range n).map fun i => (A i, .lst (row M e i))
def upd2 (M : Nat → Nat → Int) (i j : Nat) (v : Int) : Nat → Nat → Int := fun i' j' => if i' = i ∧ j' = j then v else M i' j'
theorem upd2_same (M : Nat → Nat → Int) (i j : Nat) (v : Int) : upd2 M i j v i j = v := if_pos ⟨rfl, rfl⟩
theorem upd2_ne {M : Nat → Nat → Int} {i j i' j' : Nat} {v : Int} (h : ¬ (i' = i ∧ j' = j)) : upd2 M i j v i' j' = M i' j' := if_neg h
theorem row_len (M : Nat → Nat → Int) (e i : Nat) : (row M e i).length = e := by rw [row, List.length_map, List.length_range]
theorem row_get {M : Nat → Nat → Int} {e i j : Nat} (h : j < e) : (row M e i)[j]? = some (.int (M i j)) := by
  rw [row, List.getElem?_map, List.getElem?_range h]
  rfl
theorem row_at {M : Nat → Nat → Int} {e i j : Nat} (h : j < e) : atI (row M e i) (j : Nat) = some (.int (M i j)) := by
  rw [atI_get (d := V.non) ⟨by omega, by rw [row_len]; omega⟩, Int.toNat_natCast, List.getD_eq_getElem?_getD, row_get h]
  rfl
theorem fam_len (A : Nat → Addr) (M : Nat → Nat → Int) (n e : Nat) : (fam A M n e).length = n := by rw [fam, List.length_map, List.length_range]
theorem fam_get {A : Nat → Addr} {M : Nat → Nat → Int} {n e i : Nat} (h : i < n) : (fam A M n e)[i]? = some (A i, .lst (row M e i)) := by
  rw [fam, List.getElem?_map, List.getElem?_range h]
  rfl
theorem fam_mem {A : Nat → Addr} {M : Nat → Nat → Int} {n e i : Nat} (h : i < n) : (A i, HO.lst (row M e i)) ∈ fam A M n e := List.mem_of_getElem? (fam_get h)
theorem row_set {M : Nat → Nat → Int} {e i j : Nat} {v : Int} : (row M e i).set j (.int v) = row (upd2 M i j v) e i := by
  refine List.ext_getElem? fun k => ?_
  by_cases hk : k < e
  · by_cases e2 : j = k
    · subst e2
      rw [List.getElem?_set_self (by rw [row_len]; exact hk), row_get hk, upd2_same]
    · rw [List.getElem?_set_ne e2, row_get hk, row_get hk, upd2_ne (by omega)]
  · rw [List.getElem?_eq_none (by rw [List.length_set, row_len]; omega), List.getElem?_eq_none (by rw [row_len]; omega)]
theorem row_ne {M : Nat → Nat → Int} {e i j i' : Nat} {v : Int} (h : i' ≠ i) : row (upd2 M i j v) e i' = row M e i' := by
  refine List.map_congr_left fun k _ => ?_
  rw [upd2_ne (by omega)]
theorem fam_set {A : Nat → Addr} {M : Nat → Nat → Int} {n e i j : Nat} {v : Int} (h : i < n) : (fam A M n e).set i (A i, .lst ((row M e i).set j (.int v))) = fam A (upd2 M i j v) n e := by
  rw [row_set]
  refine List.ext_getElem? fun k => ?_
  by_cases hk : k < n
  · by_cases e2 : i = k
    · subst e2
      rw [List.getElem?_set_self (by rw [fam_len]; exact hk), fam_get hk]
    · rw [List.getElem?_set_ne e2, fam_get hk, fam_get hk, row_ne (by omega)]
  · rw [List.getElem?_eq_none (by rw [List.length_set, fam_len]; omega), List.getElem?_eq_none (by rw [fam_len]; omega)]
/-- a cell is set -/
theorem Own.cell {A : Nat → Addr} {M : Nat → Nat → Int} {n e i j : Nat} {v : Int} {L1 L2 : List (Addr × HO)} (O : Own F0 H0 F H (L1 ++ (fam A M n e ++ L2)) C) (h : i < n) :
    Own F0 H0 F (upd H (A i) (.lst ((row M e i).set j (.int v)))) (L1 ++ (fam A (upd2 M i j v) n e ++ L2)) C := by
  have g : (L1 ++ (fam A M n e ++ L2))[L1.length + i]? = some (A i, .lst (row M e i)) := by
    rw [List.getElem?_append_right (by omega), show L1.length + i - L1.length = i by omega, List.getElem?_append_left (by rw [fam_len]; exact h), fam_get h]
  have O2 := O.set _ g (.lst ((row M e i).set j (.int v)))
  rw [List.set_append_right _ _ (by omega), show L1.length + i - L1.length = i by omega, List.set_append_left _ _ (by rw [fam_len]; exact h), fam_set h] at O2
  exact O2
end
end Fw

namespace Mi
open PySem PySem.Spec PyProof.Rows L2 Fw
/-! ### mirrors: Python by value -/
/-- how a value stands for data -/
structure Rp (α : Type) where
  r : Hp → V → α → Prop
  m : ∀ {F F' : Hp} {v : V} {x : α}, Same F F' → r F v x → r F' v x
theorem Paired.mono {α β : Type} {A B : α → β → Prop} (h : ∀ a b, A a b → B a b) : ∀ {xs : List α} {ys : List β}, Paired A xs ys → Paired B xs ys
  | _, _, .nil => .nil
  | _, _, .cons r t => .cons (h _ _ r) (Paired.mono h t)
theorem Paired.at {α β : Type} {A : α → β → Prop} : ∀ {xs : List α} {ys : List β} {i : Nat} {y : β}, Paired A xs ys → ys[i]? = some y → ∃ x, xs[i]? = some x ∧ A x y
  | _, _, _, _, .nil, e => by simp at e
  | _, _, 0, _, .cons r _, e => by
    have e2 := Option.some.inj e
    rw [← e2]
    exact ⟨_, rfl, r⟩
  | _, _, i + 1, _, .cons _ t, e => Paired.at (i := i) t e
theorem Paired.app {α β : Type} {A : α → β → Prop} : ∀ {xs : List α} {ys : List β} {xs' : List α} {ys' : List β}, Paired A xs ys → Paired A xs' ys' → Paired A (xs ++ xs') (ys ++ ys')
  | _, _, _, _, .nil, h => h
  | _, _, _, _, .cons r t, h => .cons r (Paired.app t h)
theorem Paired.upd {α β : Type} {A : α → β → Prop} {x : α} {y : β} (h : A x y) : ∀ {xs : List α} {ys : List β} (i : Nat), Paired A xs ys → Paired A (xs.set i x) (ys.set i y)
  | _, _, _, .nil => .nil
  | _, _, 0, .cons _ t => .cons h t
  | _, _, i + 1, .cons r t => .cons r (Paired.upd h i t)
theorem Paired.tk {α β : Type} {A : α → β → Prop} : ∀ {xs : List α} {ys : List β} (n : Nat), Paired A xs ys → Paired A (xs.take n) (ys.take n)
  | _, _, 0, _ => .nil
  | _, _, _ + 1, .nil => .nil
  | _, _, n + 1, .cons r t => .cons r (Paired.tk n t)
theorem Paired.dp {α β : Type} {A : α → β → Prop} : ∀ {xs : List α} {ys : List β} (n : Nat), Paired A xs ys → Paired A (xs.drop n) (ys.drop n)
  | _, _, 0, h => h
  | _, _, _ + 1, .nil => .nil
  | _, _, n + 1, .cons _ t => Paired.dp n t
theorem Paired.rev {α β : Type} {A : α → β → Prop} : ∀ {xs : List α} {ys : List β}, Paired A xs ys → Paired A xs.reverse ys.reverse
  | _, _, .nil => .nil
  | _, _, .cons r t => by
    rw [List.reverse_cons, List.reverse_cons]
    exact Paired.app (Paired.rev t) (.cons r .nil)
theorem Paired.ofMap {α β : Type} {A : α → β → Prop} {f : β → α} (h : ∀ a b, A a b → a = f b) : ∀ {xs : List α} {ys : List β}, Paired A xs ys → xs = ys.map f
  | _, _, .nil => rfl
  | _, _, .cons r t => by rw [List.map_cons, ← h _ _ r, ← Paired.ofMap h t]
theorem Paired.mk {α β : Type} {A : α → β → Prop} {f : β → α} (h : ∀ b, A (f b) b) : ∀ (ys : List β), Paired A (ys.map f) ys
  | [] => .nil
  | y :: ys => .cons (h y) (Paired.mk h ys)
theorem Paired.len {α β : Type} {A : α → β → Prop} {xs : List α} {ys : List β} (h : Paired A xs ys) : xs.length = ys.length := Paired.length h
def jI : Rp Int := ⟨fun _ v x => v = .int x, fun _ h => h⟩
def jB : Rp Bool := ⟨fun _ v x => v = .bl x, fun _ h => h⟩
/-- signs of a text -/
def okS (x : List Nat) : Prop := ∀ c ∈ x, c < 1114112
instance (x : List Nat) : Decidable (okS x) := inferInstanceAs (Decidable (∀ c ∈ x, c < 1114112))
theorem okS_app {x y : List Nat} (h : okS x) (k : okS y) : okS (x ++ y) := fun c hc => (List.mem_append.mp hc).elim (h c) (k c)
theorem okS_nil : okS [] := fun _ h => nomatch h
theorem okS_sub {x y : List Nat} (h : okS x) (k : ∀ c ∈ y, c ∈ x) : okS y := fun c hc => h c (k c hc)
theorem okS_flat {xs : List (List Nat)} (h : ∀ x ∈ xs, okS x) : okS xs.flatten := fun c hc => by
  obtain ⟨x, hx, hcx⟩ := List.mem_flatten.mp hc
  exact h x hx c hcx
def jS : Rp (List Nat) := ⟨fun _ v x => v = vS x ∧ okS x, fun _ h => h⟩
def jN : Rp Unit := ⟨fun _ v _ => v = .non, fun _ h => h⟩
/-- a thing known by its value -/
def jV (u : V) : Rp Unit := ⟨fun _ v _ => v = u, fun _ h => h⟩
def jO {α : Type} (R : Rp α) : Rp (Option α) := ⟨fun F v x => match x with | none => v = .non | some y => R.r F v y, fun {_ _ _ x} s h => by
  cases x with
  | none => exact h
  | some y => exact R.m s h⟩
def jL {α : Type} (R : Rp α) : Rp (List α) := ⟨fun F v xs => ∃ a vs, v = .ref a ∧ F a = some (.lst vs) ∧ Paired (R.r F) vs xs,
  fun s ⟨a, vs, e, h, p⟩ => ⟨a, vs, e, s _ _ h, Paired.mono (fun _ _ q => R.m s q) p⟩⟩
/-- a list that is read, of whatever kind -/
def jQ {α : Type} (K : PySem.W.Frag) (R : Rp α) : Rp (List α) := ⟨fun F v xs => ∃ a vs, v = .ref a ∧ SqL K F a vs ∧ Paired (R.r F) vs xs,
  fun s ⟨a, vs, e, h, p⟩ => ⟨a, vs, e, s.seq h, Paired.mono (fun _ _ q => R.m s q) p⟩⟩
/-- a tuple's parts -/
structure Tp (ρ : Type) where
  r : Hp → List V → ρ → Prop
  m : ∀ {F F' : Hp} {v : List V} {x : ρ}, Same F F' → r F v x → r F' v x
def y1 {α : Type} (R : Rp α) : Tp α := ⟨fun F vs x => ∃ v, vs = [v] ∧ R.r F v x, fun s ⟨v, e, h⟩ => ⟨v, e, R.m s h⟩⟩
def yC {α ρ : Type} (R : Rp α) (T : Tp ρ) : Tp (α × ρ) := ⟨fun F vs x => ∃ v r, vs = v :: r ∧ R.r F v x.1 ∧ T.r F r x.2, fun s ⟨v, r, e, h, t⟩ => ⟨v, r, e, R.m s h, T.m s t⟩⟩
def jT {ρ : Type} (T : Tp ρ) : Rp ρ := ⟨fun F v x => ∃ a vs, v = .ref a ∧ F a = some (.tup vs) ∧ T.r F vs x, fun s ⟨a, vs, e, h, t⟩ => ⟨a, vs, e, s _ _ h, T.m s t⟩⟩
/-- how a value and its own objects stand for data -/
structure Sl (α : Type) where
  r : V → Hp → List (Addr × HO) → α → Prop
  m : ∀ {F F' : Hp} {v : V} {L : List (Addr × HO)} {x : α}, Same F F' → r v F L x → r v F' L x
def sF {α : Type} (R : Rp α) : Sl α := ⟨fun v F L x => L = [] ∧ R.r F v x, fun s ⟨e, h⟩ => ⟨e, R.m s h⟩⟩
def sO {α : Type} (R : Rp α) : Sl (List α) := ⟨fun v F L xs => ∃ p vs, v = .ref p ∧ L = [(p, .lst vs)] ∧ Paired (R.r F) vs xs,
  fun s ⟨p, vs, e, h, q⟩ => ⟨p, vs, e, h, Paired.mono (fun _ _ q => R.m s q) q⟩⟩
/-- the names -/
structure En (ρ : Type) where
  r : L2.St → Hp → List (Addr × HO) → ρ → Prop
  m : ∀ {σ : L2.St} {F F' : Hp} {L : List (Addr × HO)} {x : ρ}, Same F F' → r σ F L x → r σ F' L x
def eN : En Unit := ⟨fun σ _ L _ => σ = [] ∧ L = [], fun _ h => h⟩
def eU {ρ : Type} (E : En ρ) : En ρ := ⟨fun σ F L γ => ∃ o σ', σ = o :: σ' ∧ E.r σ' F L γ, fun s ⟨o, σ', e, h⟩ => ⟨o, σ', e, E.m s h⟩⟩
def eC {α ρ : Type} (s : Sl α) (E : En ρ) : En (α × ρ) := ⟨fun σ F L γ => ∃ v σ' L1 L2, σ = some v :: σ' ∧ L = L1 ++ L2 ∧ s.r v F L1 γ.1 ∧ E.r σ' F L2 γ.2,
  fun z ⟨v, σ', L1, L2, e1, e2, h, t⟩ => ⟨v, σ', L1, L2, e1, e2, s.m z h, E.m z t⟩⟩
/-! own objects, fewer -/
def Sb (A B : List (Addr × HO)) : Prop := ∃ R, (A ++ R).Perm B
theorem Sb.refl (A : List (Addr × HO)) : Sb A A := ⟨[], by rw [List.append_nil]⟩
theorem Sb.trans {A B C : List (Addr × HO)} (h : Sb A B) (k : Sb B C) : Sb A C := by
  obtain ⟨R, h⟩ := h
  obtain ⟨S, k⟩ := k
  exact ⟨R ++ S, by rw [← List.append_assoc]; exact (h.append_right S).trans k⟩
theorem Sb.left {A B : List (Addr × HO)} (C : List (Addr × HO)) (h : Sb A B) : Sb (C ++ A) (C ++ B) := by
  obtain ⟨R, h⟩ := h
  exact ⟨R, by rw [List.append_assoc]; exact h.append_left C⟩
theorem Sb.right {A B : List (Addr × HO)} (C : List (Addr × HO)) (h : Sb A B) : Sb (A ++ C) (B ++ C) := by
  obtain ⟨R, h⟩ := h
  refine ⟨R, ?_⟩
  have e : ((A ++ C) ++ R).Perm ((A ++ R) ++ C) := by
    rw [List.append_assoc, List.append_assoc]
    exact List.perm_append_comm.append_left A
  exact e.trans (h.append_right C)
theorem Sb.perm {A B : List (Addr × HO)} (h : A.Perm B) : Sb A B := ⟨[], by rw [List.append_nil]; exact h⟩
theorem Sb.dropL (A B : List (Addr × HO)) : Sb B (A ++ B) := ⟨A, List.perm_append_comm⟩
theorem Sb.dropR (A B : List (Addr × HO)) : Sb A (A ++ B) := ⟨B, List.Perm.refl _⟩
theorem Sb.nil (A : List (Addr × HO)) : Sb [] A := ⟨A, List.Perm.refl _⟩
theorem Sb.mem {A B : List (Addr × HO)} (h : Sb A B) {q : Addr × HO} (hq : q ∈ A) : q ∈ B := by
  obtain ⟨R, h⟩ := h
  exact h.subset (List.mem_append_left R hq)
theorem OwnSb {F0 H0 F H : Hp} {L L' : List (Addr × HO)} {C : List Ck} (O : Own F0 H0 F H L C) (h : Sb L' L) : Own F0 H0 F H L' C := by
  obtain ⟨R, h⟩ := h
  exact (O.perm h).sub (List.sublist_append_left L' R)
abbrev Held (H : Hp) (L : List (Addr × HO)) : Prop := ∀ q ∈ L, H q.1 = some q.2
theorem Held.of {F0 H0 F H : Hp} {L : List (Addr × HO)} {C : List Ck} (O : Own F0 H0 F H L C) : Held H L := fun q hq => (O.own q hq).2.2
theorem Held.mono {H H' : Hp} {L : List (Addr × HO)} (h : Held H L) (s : Same H H') : Held H' L := fun q hq => s _ _ (h q hq)
abbrev Step (F H F' H' : Hp) (L : List (Addr × HO)) : Prop := Own F H F' H' L []
theorem Step.nil {F H : Hp} (s : Same F H) : Step F H F H [] := Own.start s trivial
theorem Own.on {F0 H0 F H F' H' : Hp} {L L1 : List (Addr × HO)} {C : List Ck} (O : Own F0 H0 F H L C) (s : Step F H F' H' L1) : Own F0 H0 F' H' (L1 ++ L) C := O.grow s.ext s.news
/-! ### the judgements -/
section
variable {ρ ρ' α β δ : Type}
structure SE (t : TE) (E : En ρ) (s : Sl α) (f : ρ → Option α) : Prop where
  run : ∀ {σ : L2.St} {F H : Hp} {L : List (Addr × HO)} {γ : ρ} {x : α} {Q : VK}, Same F H → Held H L → E.r σ F L γ → f γ = some x →
  (∀ v F' H' L1, Step F H F' H' L1 → s.r v F' L1 x → Q v H') → t σ H Q
instance {t : TE} {E : En ρ} {s : Sl α} {f : ρ → Option α} : CoeFun (SE t E s f) (fun _ => ∀ {σ : L2.St} {F H : Hp} {L : List (Addr × HO)} {γ : ρ} {x : α} {Q : VK}, Same F H → Held H L → E.r σ F L γ → f γ = some x →
  (∀ v F' H' L1, Step F H F' H' L1 → s.r v F' L1 x → Q v H') → t σ H Q) := ⟨fun h => h.run⟩
structure RE (X : Cx) (e : Expr) (t : TE) (E : En ρ) (s : Sl α) (f : ρ → Option α) : Prop where
  pe : PE X e t
  se : SE t E s f
structure SB (t : TE) (E : En ρ) (R : Rp α) (f : ρ → Option (List α)) : Prop where
  run : ∀ {σ : L2.St} {F H : Hp} {L : List (Addr × HO)} {γ : ρ} {x : List α} {Q : VK}, Same F H → Held H L → E.r σ F L γ → f γ = some x →
  (∀ a vs F' H', Step F H F' H' [] → H' a = some (.lst vs) → Paired (R.r F') vs x → Q (.ref a) H') → t σ H Q
instance {t : TE} {E : En ρ} {R : Rp α} {f : ρ → Option (List α)} : CoeFun (SB t E R f) (fun _ => ∀ {σ : L2.St} {F H : Hp} {L : List (Addr × HO)} {γ : ρ} {x : List α} {Q : VK}, Same F H → Held H L → E.r σ F L γ → f γ = some x →
  (∀ a vs F' H', Step F H F' H' [] → H' a = some (.lst vs) → Paired (R.r F') vs x → Q (.ref a) H') → t σ H Q) := ⟨fun h => h.run⟩
/-- a list read as it stands -/
structure RB (X : Cx) (e : Expr) (t : TE) (E : En ρ) (R : Rp α) (f : ρ → Option (List α)) : Prop where
  pe : PE X e t
  se : SB t E R f
structure ST (t : TT) (E : En ρ) (f : ρ → Option Bool) : Prop where
  run : ∀ {σ : L2.St} {F H : Hp} {L : List (Addr × HO)} {γ : ρ} {x : Bool} {Q : Bool → Hp → Prop}, Same F H → Held H L → E.r σ F L γ → f γ = some x →
  (∀ F' H', Step F H F' H' [] → Q x H') → t σ H Q
instance {t : TT} {E : En ρ} {f : ρ → Option Bool} : CoeFun (ST t E f) (fun _ => ∀ {σ : L2.St} {F H : Hp} {L : List (Addr × HO)} {γ : ρ} {x : Bool} {Q : Bool → Hp → Prop}, Same F H → Held H L → E.r σ F L γ → f γ = some x →
  (∀ F' H', Step F H F' H' [] → Q x H') → t σ H Q) := ⟨fun h => h.run⟩
structure RTt (X : Cx) (e : Expr) (t : TT) (E : En ρ) (f : ρ → Option Bool) : Prop where
  pt : PT X e t
  st : ST t E f
structure RW (X : Cx) (e : Expr) (t : TT) (E : En ρ) (f : ρ → Option Bool) : Prop where
  pw : PW X e t
  st : ST t E f
/-- arguments -/
structure Ar (ρ : Type) where
  r : Hp → List V → ρ → Prop
  m : ∀ {F F' : Hp} {v : List V} {x : ρ}, Same F F' → r F v x → r F' v x
def aN : Ar Unit := ⟨fun _ vs _ => vs = [], fun _ h => h⟩
def aC (R : Rp α) (T : Ar ρ) : Ar (α × ρ) := ⟨fun F vs x => ∃ v r, vs = v :: r ∧ R.r F v x.1 ∧ T.r F r x.2, fun s ⟨v, r, e, h, t⟩ => ⟨v, r, e, R.m s h, T.m s t⟩⟩
structure SA (t : TA) (E : En ρ) (A : Ar α) (f : ρ → Option α) : Prop where
  run : ∀ {σ : L2.St} {F H : Hp} {L : List (Addr × HO)} {γ : ρ} {x : α} {Q : List V → Hp → Prop}, Same F H → Held H L → E.r σ F L γ → f γ = some x →
  (∀ vs F' H', Step F H F' H' [] → A.r F' vs x → Q vs H') → t σ H Q
instance {t : TA} {E : En ρ} {A : Ar α} {f : ρ → Option α} : CoeFun (SA t E A f) (fun _ => ∀ {σ : L2.St} {F H : Hp} {L : List (Addr × HO)} {γ : ρ} {x : α} {Q : List V → Hp → Prop}, Same F H → Held H L → E.r σ F L γ → f γ = some x →
  (∀ vs F' H', Step F H F' H' [] → A.r F' vs x → Q vs H') → t σ H Q) := ⟨fun h => h.run⟩
structure RA (X : Cx) (es : List Expr) (t : TA) (E : En ρ) (A : Ar α) (f : ρ → Option α) : Prop where
  pa : PA X es t
  sa : SA t E A f
end
/-! ### names -/
section
variable {ρ ρ' α β δ : Type} {E : En ρ} {E' : En ρ'} {s : Sl α} {s' : Sl β}
structure Gt (E : En ρ) (i : Nat) (s : Sl α) (g : ρ → α) : Prop where
  run : ∀ {σ : L2.St} {F : Hp} {L : List (Addr × HO)} {γ : ρ}, E.r σ F L γ → ∃ v L1, σ[i]? = some (some v) ∧ (∀ q ∈ L1, q ∈ L) ∧ s.r v F L1 (g γ)
instance {E : En ρ} {i : Nat} {s : Sl α} {g : ρ → α} : CoeFun (Gt E i s g) (fun _ => ∀ {σ : L2.St} {F : Hp} {L : List (Addr × HO)} {γ : ρ}, E.r σ F L γ → ∃ v L1, σ[i]? = some (some v) ∧ (∀ q ∈ L1, q ∈ L) ∧ s.r v F L1 (g γ)) := ⟨fun h => h.run⟩
theorem g0 : Gt (eC s E) 0 s (fun γ => γ.1) := ⟨fun ⟨v, σ', L1, L2, e1, e2, h, _⟩ => ⟨v, L1, by rw [e1]; rfl, fun q hq => by rw [e2]; exact List.mem_append_left _ hq, h⟩⟩
theorem gU {i : Nat} {g : ρ → α} (h : Gt E i s g) : Gt (eU E) (i + 1) s g := ⟨fun ⟨o, σ', e, t⟩ => by
  obtain ⟨v, L1, h1, h2, h3⟩ := h t
  exact ⟨v, L1, by rw [e]; exact h1, h2, h3⟩⟩
theorem gS {i : Nat} {g : ρ → α} (h : Gt E i s g) : Gt (eC s' E) (i + 1) s (fun γ => g γ.2) := ⟨fun ⟨v', σ', L1', L2, e1, e2, _, t⟩ => by
  obtain ⟨v, L1, h1, h2, h3⟩ := h t
  exact ⟨v, L1, by rw [e1]; exact h1, fun q hq => by rw [e2]; exact List.mem_append_right _ (h2 q hq), h3⟩⟩
/-- a name gets a value -/
structure Pt (E : En ρ) (i : Nat) (s : Sl α) (E' : En ρ') (u : α → ρ → ρ') : Prop where
  run : ∀ {σ : L2.St} {F : Hp} {L : List (Addr × HO)} {γ : ρ} {v : V} {L1 : List (Addr × HO)} {x : α}, E.r σ F L γ → s.r v F L1 x →
  ∃ L', E'.r (σ.set i (some v)) F L' (u x γ) ∧ Sb L' (L1 ++ L)
instance {E : En ρ} {i : Nat} {s : Sl α} {E' : En ρ'} {u : α → ρ → ρ'} : CoeFun (Pt E i s E' u) (fun _ => ∀ {σ : L2.St} {F : Hp} {L : List (Addr × HO)} {γ : ρ} {v : V} {L1 : List (Addr × HO)} {x : α}, E.r σ F L γ → s.r v F L1 x →
  ∃ L', E'.r (σ.set i (some v)) F L' (u x γ) ∧ Sb L' (L1 ++ L)) := ⟨fun h => h.run⟩
theorem p0 : Pt (eC s' E) 0 s (eC s E) (fun x γ => (x, γ.2)) := ⟨fun {_ _ _ _ v L1 _} ⟨v', σ', La, L2, e1, e2, _, t⟩ h => by
  subst e1 e2
  exact ⟨L1 ++ L2, ⟨v, σ', L1, L2, rfl, rfl, h, t⟩, (Sb.dropL La L2).left L1⟩⟩
theorem p0U : Pt (eU E) 0 s (eC s E) (fun x γ => (x, γ)) := ⟨fun {_ _ L _ v L1 _} ⟨o, σ', e, t⟩ h => by
  subst e
  exact ⟨L1 ++ L, ⟨v, σ', L1, L, rfl, rfl, h, t⟩, Sb.refl _⟩⟩
theorem pU {i : Nat} {u : α → ρ → ρ'} (h : Pt E i s E' u) : Pt (eU E) (i + 1) s (eU E') u := ⟨fun ⟨o, σ', e, t⟩ k => by
  subst e
  obtain ⟨L', h1, h2⟩ := h t k
  exact ⟨L', ⟨o, _, rfl, h1⟩, h2⟩⟩
theorem pS {i : Nat} {u : α → ρ → ρ'} (h : Pt E i s E' u) : Pt (eC s' E) (i + 1) s (eC s' E') (fun x γ => (γ.1, u x γ.2)) := ⟨fun {_ _ _ _ _ L1 _} ⟨v', σ', La, L2, e1, e2, q, t⟩ k => by
  subst e1 e2
  obtain ⟨L', h1, h2⟩ := h t k
  refine ⟨La ++ L', ⟨v', _, La, L', rfl, rfl, q, h1⟩, (h2.left La).trans (Sb.perm ?_)⟩
  rw [← List.append_assoc, ← List.append_assoc]
  exact List.perm_append_comm.append_right L2⟩
/-- an own list is changed -/
structure Up (E : En ρ) (i : Nat) (R : Rp α) (g : ρ → List α) (u : List α → ρ → ρ) : Prop where
  run : ∀ {σ : L2.St} {F : Hp} {L : List (Addr × HO)} {γ : ρ}, E.r σ F L γ →
  ∃ p vs j, σ[i]? = some (some (.ref p)) ∧ L[j]? = some (p, .lst vs) ∧ Paired (R.r F) vs (g γ) ∧ ∀ F' vs' xs', Same F F' → Paired (R.r F') vs' xs' → E.r σ F' (L.set j (p, .lst vs')) (u xs' γ)
instance {E : En ρ} {i : Nat} {R : Rp α} {g : ρ → List α} {u : List α → ρ → ρ} : CoeFun (Up E i R g u) (fun _ => ∀ {σ : L2.St} {F : Hp} {L : List (Addr × HO)} {γ : ρ}, E.r σ F L γ →
  ∃ p vs j, σ[i]? = some (some (.ref p)) ∧ L[j]? = some (p, .lst vs) ∧ Paired (R.r F) vs (g γ) ∧ ∀ F' vs' xs', Same F F' → Paired (R.r F') vs' xs' → E.r σ F' (L.set j (p, .lst vs')) (u xs' γ)) := ⟨fun h => h.run⟩
theorem u0 {R : Rp α} : Up (eC (sO R) E) 0 R (fun γ => γ.1) (fun xs γ => (xs, γ.2)) := ⟨fun ⟨v', σ', La, L2, e1, e2, ⟨p, vs, e3, e4, q⟩, t⟩ => by
  subst e1 e2 e3 e4
  exact ⟨p, vs, 0, rfl, rfl, q, fun F' vs' xs' sF q' => ⟨_, σ', [(p, .lst vs')], L2, rfl, rfl, ⟨p, vs', rfl, rfl, q'⟩, E.m sF t⟩⟩⟩
theorem uU {i : Nat} {R : Rp α} {g : ρ → List α} {u : List α → ρ → ρ} (h : Up E i R g u) : Up (eU E) (i + 1) R g u := ⟨fun ⟨o, σ', e, t⟩ => by
  subst e
  obtain ⟨p, vs, j, h1, h2, h3, h4⟩ := h t
  exact ⟨p, vs, j, h1, h2, h3, fun F' vs' xs' sF q' => ⟨o, σ', rfl, h4 F' vs' xs' sF q'⟩⟩⟩
theorem uS {i : Nat} {R : Rp α} {g : ρ → List α} {u : List α → ρ → ρ} (h : Up E i R g u) : Up (eC s' E) (i + 1) R (fun γ => g γ.2) (fun xs γ => (γ.1, u xs γ.2)) := ⟨fun ⟨v', σ', La, L2, e1, e2, q, t⟩ => by
  subst e1 e2
  obtain ⟨p, vs, j, h1, h2, h3, h4⟩ := h t
  refine ⟨p, vs, La.length + j, h1, by rw [List.getElem?_append_right (by omega), show La.length + j - La.length = j by omega]; exact h2, h3, fun F' vs' xs' sF q' => ⟨v', σ', La, L2.set j (p, .lst vs'), rfl, ?_, s'.m sF q, h4 F' vs' xs' sF q'⟩⟩
  rw [List.set_append_right _ _ (by omega), show La.length + j - La.length = j by omega]⟩
/-- names are forgotten, own lists frozen -/
structure Co (E : En ρ) (E' : En ρ') (c : ρ → ρ') : Prop where
  run : ∀ {σ : L2.St} {F0 H0 F H : Hp} {L Z : List (Addr × HO)} {γ : ρ}, Own F0 H0 F H (L ++ Z) [] → E.r σ F L γ → ∃ F' L', Own F0 H0 F' H (L' ++ Z) [] ∧ Same F F' ∧ E'.r σ F' L' (c γ)
instance {E : En ρ} {E' : En ρ'} {c : ρ → ρ'} : CoeFun (Co E E' c) (fun _ => ∀ {σ : L2.St} {F0 H0 F H : Hp} {L Z : List (Addr × HO)} {γ : ρ}, Own F0 H0 F H (L ++ Z) [] → E.r σ F L γ → ∃ F' L', Own F0 H0 F' H (L' ++ Z) [] ∧ Same F F' ∧ E'.r σ F' L' (c γ)) := ⟨fun h => h.run⟩
theorem cN : Co eN eN (fun γ => γ) := ⟨fun {_ _ _ F _ L _ _} O h => ⟨F, L, O, Same.refl _, h⟩⟩
theorem cId : Co E E (fun γ => γ) := ⟨fun {_ _ _ F _ L _ _} O h => ⟨F, L, O, Same.refl _, h⟩⟩
theorem cU {c : ρ → ρ'} (h : Co E E' c) : Co (eU E) (eU E') c := ⟨fun O ⟨o, σ', e, t⟩ => by
  obtain ⟨F', L', O', sF, t'⟩ := h O t
  exact ⟨F', L', O', sF, o, σ', e, t'⟩⟩
theorem cK {c : ρ → ρ'} (h : Co E E' c) : Co (eC s E) (eC s E') (fun γ => (γ.1, c γ.2)) := ⟨fun {_ _ _ _ _ _ Z _} O ⟨v, σ', L1, L2, e1, e2, q, t⟩ => by
  subst e1 e2
  have O1 := O.perm (L' := L2 ++ (L1 ++ Z)) (by rw [← List.append_assoc]; exact List.perm_append_comm.append_right Z)
  obtain ⟨F', L', O', sF, t'⟩ := h O1 t
  refine ⟨F', L1 ++ L', O'.perm ?_, sF, v, σ', L1, L', rfl, rfl, s.m sF q, t'⟩
  rw [← List.append_assoc]
  exact List.perm_append_comm.append_right Z⟩
theorem cF {c : ρ → ρ'} (h : Co E E' c) : Co (eC s E) (eU E') (fun γ => c γ.2) := ⟨fun {_ _ _ _ _ _ Z _} O ⟨v, σ', L1, L2, e1, e2, q, t⟩ => by
  subst e1 e2
  have O1 := OwnSb (L' := L2 ++ Z) O (by rw [List.append_assoc]; exact Sb.dropL _ _)
  obtain ⟨F', L', O', sF, t'⟩ := h O1 t
  exact ⟨F', L', O', sF, _, σ', rfl, t'⟩⟩
theorem cI {c : ρ → ρ'} {R : Rp α} (h : Co E E' c) : Co (eC (sO R) E) (eC (sF (jL R)) E') (fun γ => (γ.1, c γ.2)) := ⟨fun {_ _ _ F _ _ Z _} O ⟨v, σ', L1, L2, e1, e2, ⟨p, vs, e3, e4, q⟩, t⟩ => by
  subst e1 e2 e3 e4
  have O1 := (show Own _ _ _ _ ((p, HO.lst vs) :: (L2 ++ Z)) [] from O).freeze
  have s1 : Same F (upd F p (.lst vs)) := fun b u e => by rw [upd_ne (ne_of_none e ((O.own (p, .lst vs) List.mem_cons_self)).1)]; exact e
  obtain ⟨F', L', O', sF, t'⟩ := h (O1.chunks trivial) (E.m s1 t)
  exact ⟨F', L', O', s1.trans sF, _, σ', [], L', rfl, rfl, ⟨rfl, p, vs, rfl, sF _ _ upd_same, Paired.mono (fun _ _ q => R.m (s1.trans sF) q) q⟩, t'⟩⟩
end
end Mi

namespace Mi
open PySem PySem.Spec PyProof.Rows L2 Fw
theorem Step.tr {F H F1 H1 F2 H2 : Hp} {L : List (Addr × HO)} (a : Step F H F1 H1 []) (b : Step F1 H1 F2 H2 L) : Step F H F2 H2 L := by
  have := Own.on a b
  rwa [List.append_nil] at this
abbrev ob {α β : Type} (x : Option α) (f : α → Option β) : Option β := x.bind f
theorem ob_some {α β : Type} {x : Option α} {f : α → Option β} {z : β} (e : ob x f = some z) : ∃ y, x = some y ∧ f y = some z := Option.bind_eq_some_iff.mp e
/-! ### expressions -/
section
variable {ρ ρ' α β δ ε : Type} {E : En ρ} {E' : En ρ'} {ta tb tc te : TE} {A : Rp α} {B : Rp β} {D : Rp δ} {fa : ρ → Option α} {fb : ρ → Option β} {fc : ρ → Option δ} {K : PySem.W.Frag}
theorem se_var {i : Nat} {R : Rp α} {g : ρ → α} (hg : Gt E i (sF R) g) : SE (tVar i) E (sF R) (fun γ => some (g γ)) := ⟨fun {_ _ _ _ _ _ _} sF' _ he e k => by
  obtain ⟨v, L1, h1, _, h2, h3⟩ := hg he
  cases e
  exact ⟨v, h1, k v _ _ [] (Step.nil sF') ⟨rfl, h3⟩⟩⟩
theorem se_c {v : V} {R : Rp α} (x : α) (h : ∀ F, R.r F v x) : SE (tC v) E (sF R) (fun _ => some x) := ⟨fun sF' _ _ e k => by
  cases e
  exact k v _ _ [] (Step.nil sF') ⟨rfl, h _⟩⟩
theorem se_int {i : Int} : SE (tC (.int i)) E (sF jI) (fun _ => some i) := se_c i fun _ => rfl
theorem se_bl {i : Bool} : SE (tC (.bl i)) E (sF jB) (fun _ => some i) := se_c i fun _ => rfl
theorem se_str {l : List Nat} (h : okS l := by decide) : SE (tC (vS l)) E (sF jS) (fun _ => some l) := se_c l fun _ => ⟨rfl, h⟩
theorem se_non : SE (tC .non) E (sF jN) (fun _ => some ()) := se_c () fun _ => rfl
theorem se_v {v : V} : SE (tC v) E (sF (jV v)) (fun _ => some ()) := se_c () fun _ => rfl
/-- a fresh list is frozen -/
theorem se_fz {R : Rp α} {fa : ρ → Option (List α)} (h : SE ta E (sO R) fa) : SE ta E (sF (jL R)) fa := ⟨fun {_ _ _ _ _ _ _} s1 hL he e k => h s1 hL he e fun v F' H' L1 s2 ⟨p, vs, e1, e2, q⟩ => by
  subst e1 e2
  have sP : Same F' (upd F' p (.lst vs)) := fun b u e => by rw [upd_ne (ne_of_none e ((s2.own (p, .lst vs) List.mem_cons_self)).1)]; exact e
  exact k _ _ _ [] (s2.freeze.chunks trivial) ⟨rfl, p, vs, rfl, upd_same, Paired.mono (fun _ _ q => R.m sP q) q⟩⟩
/-- another reading of the value -/
theorem se_cv {s : Sl α} {s' : Sl β} {c : α → Option β} (h : SE ta E s fa) (hc : ∀ {v F L x y}, s.r v F L x → c x = some y → s'.r v F L y) : SE ta E s' (fun γ => ob (fa γ) c) := ⟨fun s1 hL he e k => by
  obtain ⟨x, e1, e2⟩ := ob_some e
  exact h s1 hL he e1 fun v F' H' L1 s2 r => k v F' H' L1 s2 (hc r e2)⟩
/-- a value that is there -/
theorem se_some {R : Rp α} {fa : ρ → Option (Option α)} (h : SE ta E (sF (jO R)) fa) : SE ta E (sF R) (fun γ => ob (fa γ) fun x => x) := se_cv h fun {v F L x y} ⟨e, r⟩ e2 => by
  subst e2
  exact ⟨e, r⟩
theorem se_toOp {R : Rp α} (h : SE ta E (sF R) fa) : SE ta E (sF (jO R)) (fun γ => ob (fa γ) fun x => some (some x)) := se_cv h fun {v F L x y} ⟨e, r⟩ e2 => by
  cases e2
  exact ⟨e, r⟩
theorem se_nonOp {R : Rp α} : SE (tC .non) E (sF (jO R)) (fun _ => some none) := se_c none fun _ => rfl
theorem se_toQ {R : Rp α} {fa : ρ → Option (List α)} (h : SE ta E (sF (jL R)) fa) : SE ta E (sF (jQ K R)) fa := ⟨fun s1 hL he e k => h s1 hL he e fun v F' H' L1 s2 ⟨e1, a, vs, e2, r, p⟩ => k v F' H' L1 s2 ⟨e1, a, vs, e2, .inl (.inl r), p⟩⟩
/-- two operands -/
structure S2 (r : R2) (A : Rp α) (B : Rp β) (s : Sl δ) (g : α → β → Option δ) : Prop where
  run : ∀ {F H : Hp} {x y : V} {a : α} {b : β} {c : δ} {Q : VK}, Same F H → A.r F x a → B.r F y b → g a b = some c →
  (∀ z F' H' L, Step F H F' H' L → s.r z F' L c → Q z H') → r x y H Q
instance {r : R2} {A : Rp α} {B : Rp β} {s : Sl δ} {g : α → β → Option δ} : CoeFun (S2 r A B s g) (fun _ => ∀ {F H : Hp} {x y : V} {a : α} {b : β} {c : δ} {Q : VK}, Same F H → A.r F x a → B.r F y b → g a b = some c →
  (∀ z F' H' L, Step F H F' H' L → s.r z F' L c → Q z H') → r x y H Q) := ⟨fun h => h.run⟩
theorem se_op {r : R2} {s : Sl δ} {g : α → β → Option δ} (ha : SE ta E (sF A) fa) (hb : SE tb E (sF B) fb) (hs : S2 r A B s g) : SE (tOp r ta tb) E s (fun γ => ob (fa γ) fun x => ob (fb γ) fun y => g x y) := ⟨fun s0 hL he e k => by
  obtain ⟨x, e1, e⟩ := ob_some e
  obtain ⟨y, e2, e⟩ := ob_some e
  refine ha s0 hL he e1 fun v F1 H1 L1 s1 ⟨z1, r1⟩ => ?_
  subst z1
  refine hb s1.fh (hL.mono s1.hh) (E.m s1.f0 he) e2 fun u F2 H2 L2 s2 ⟨z2, r2⟩ => ?_
  subst z2
  exact hs s2.fh (A.m s2.f0 r1) r2 e fun z F3 H3 L3 s3 r3 => k z F3 H3 L3 (s1.tr (s2.tr s3)) r3⟩
structure S1 (r : V → Hp → VK → Prop) (A : Rp α) (s : Sl δ) (g : α → Option δ) : Prop where
  run : ∀ {F H : Hp} {x : V} {a : α} {c : δ} {Q : VK}, Same F H → A.r F x a → g a = some c →
  (∀ z F' H' L, Step F H F' H' L → s.r z F' L c → Q z H') → r x H Q
instance {r : V → Hp → VK → Prop} {A : Rp α} {s : Sl δ} {g : α → Option δ} : CoeFun (S1 r A s g) (fun _ => ∀ {F H : Hp} {x : V} {a : α} {c : δ} {Q : VK}, Same F H → A.r F x a → g a = some c →
  (∀ z F' H' L, Step F H F' H' L → s.r z F' L c → Q z H') → r x H Q) := ⟨fun h => h.run⟩
theorem se_un {r : V → Hp → VK → Prop} {s : Sl δ} {g : α → Option δ} (ha : SE ta E (sF A) fa) (hs : S1 r A s g) : SE (tUn r ta) E s (fun γ => ob (fa γ) fun x => g x) := ⟨fun s0 hL he e k => by
  obtain ⟨x, e1, e⟩ := ob_some e
  refine ha s0 hL he e1 fun v F1 H1 L1 s1 ⟨z1, r1⟩ => ?_
  subst z1
  exact hs s1.fh r1 e fun z F3 H3 L3 s3 r3 => k z F3 H3 L3 (s1.tr s3) r3⟩
theorem s2_I0 {f : Int → Int → Int} : S2 (rI0 fun i j => .int (f i j)) jI jI (sF jI) (fun x y => some (f x y)) := ⟨fun s0 r1 r2 e k => by
  cases e
  exact ⟨_, _, r1, r2, k _ _ _ [] (Step.nil s0) ⟨rfl, rfl⟩⟩⟩
theorem s2_C0 {f : Int → Int → Bool} : S2 (rI0 fun i j => .bl (f i j)) jI jI (sF jB) (fun x y => some (f x y)) := ⟨fun s0 r1 r2 e k => by
  cases e
  exact ⟨_, _, r1, r2, k _ _ _ [] (Step.nil s0) ⟨rfl, rfl⟩⟩⟩
def pck (P : Prop) [Decidable P] (x : α) : Option α := if P then some x else none
theorem pck_some {P : Prop} [Decidable P] {x y : α} (h : pck P x = some y) : P ∧ x = y := by
  unfold pck at h
  split at h
  · next p => cases h; exact ⟨p, rfl⟩
  · cases h
theorem pck_of {P : Prop} [Decidable P] {x : α} (h : P) : pck P x = some x := if_pos h
theorem s2_I {C : Int → Int → Prop} {P : Int → Int → Prop} [∀ i j, Decidable (P i j)] {f : Int → Int → Int} (h : ∀ i j, P i j → C i j) : S2 (rI C fun i j => .int (f i j)) jI jI (sF jI) (fun x y => pck (P x y) (f x y)) := ⟨fun s0 r1 r2 e k => by
  obtain ⟨p, rfl⟩ := pck_some e
  exact ⟨_, _, r1, r2, h _ _ p, k _ _ _ [] (Step.nil s0) ⟨rfl, rfl⟩⟩⟩
abbrev PMul (i j : Int) : Prop := (-18446744073709551616 < i ∧ i < 18446744073709551616) ∨ (-18446744073709551616 < j ∧ j < 18446744073709551616)
abbrev PDiv (_ j : Int) : Prop := 0 < j ∧ j < 1073741824
abbrev PMod (_ j : Int) : Prop := 0 < j
abbrev PSh (_ j : Int) : Prop := 0 ≤ j
theorem s2_mul : S2 (rI CMul fun i j => .int (i * j)) jI jI (sF jI) (fun x y => pck (PMul x y) (x * y)) := s2_I fun _ _ h => h
theorem s2_div : S2 (rI CDiv fun i j => .int (i / j)) jI jI (sF jI) (fun x y => pck (PDiv x y) (x / y)) := s2_I fun _ _ h => h
theorem s2_mod : S2 (rI (fun _ j => 0 < j) fun i j => .int (i % j)) jI jI (sF jI) (fun x y => pck (PMod x y) (x % y)) := s2_I fun _ _ h => h
theorem s2_shr : S2 (rI (fun _ j => 0 ≤ j) fun i j => .int (i / 2 ^ j.toNat)) jI jI (sF jI) (fun x y => pck (PSh x y) (x / 2 ^ y.toNat)) := s2_I (P := PSh) (f := fun i j => i / 2 ^ j.toNat) fun _ _ h => h
theorem s1_U {f : Int → Int} : S1 (rU fun i => .int (f i)) jI (sF jI) (fun x => some (f x)) := ⟨fun s0 r1 e k => by
  cases e
  exact ⟨_, r1, k _ _ _ [] (Step.nil s0) ⟨rfl, rfl⟩⟩⟩
theorem s2_eqI : S2 rEq jI jI (sF jB) (fun x y => some (decide (x = y))) := ⟨fun {_ H _ _ a b _ Q} s0 r1 r2 e k => by
  cases e
  rw [show _ = V.int a from r1, show _ = V.int b from r2, q_eqI]
  exact k _ _ _ [] (Step.nil s0) ⟨rfl, rfl⟩⟩
theorem s2_neI : S2 rNe jI jI (sF jB) (fun x y => some (!decide (x = y))) := ⟨fun {_ H _ _ a b _ Q} s0 r1 r2 e k => by
  cases e
  rw [show _ = V.int a from r1, show _ = V.int b from r2, q_neI]
  exact k _ _ _ [] (Step.nil s0) ⟨rfl, rfl⟩⟩
theorem s2_eqS : S2 rEq jS jS (sF jB) (fun x y => some (decide (x = y))) := ⟨fun {_ H _ _ a b _ Q} s0 r1 r2 e k => by
  cases e
  rw [show _ = V.str (S a) from r1.1, show _ = V.str (S b) from r2.1, q_eqS, show decide (S a = S b) = decide (a = b) from decide_eq_decide.mpr S_inj]
  exact k _ _ _ [] (Step.nil s0) ⟨rfl, rfl⟩⟩
theorem s2_neS : S2 rNe jS jS (sF jB) (fun x y => some (!decide (x = y))) := ⟨fun {_ H _ _ a b _ Q} s0 r1 r2 e k => by
  cases e
  rw [show _ = V.str (S a) from r1.1, show _ = V.str (S b) from r2.1, q_neS, show decide (S a = S b) = decide (a = b) from decide_eq_decide.mpr S_inj]
  exact k _ _ _ [] (Step.nil s0) ⟨rfl, rfl⟩⟩
theorem s2_eqB : S2 rEq jB jB (sF jB) (fun x y => some (decide (x = y))) := ⟨fun {_ H _ _ a b _ Q} s0 r1 r2 e k => by
  cases e
  rw [show _ = V.bl a from r1, show _ = V.bl b from r2, q_eqB]
  exact k _ _ _ [] (Step.nil s0) ⟨rfl, rfl⟩⟩
theorem s2_neB : S2 rNe jB jB (sF jB) (fun x y => some (!decide (x = y))) := ⟨fun {_ H _ _ a b _ Q} s0 r1 r2 e k => by
  cases e
  rw [show _ = V.bl a from r1, show _ = V.bl b from r2, q_neB]
  exact k _ _ _ [] (Step.nil s0) ⟨rfl, rfl⟩⟩
abbrev sz : Nat := 16777216
theorem sz_le {n : Nat} (h : n ≤ sz) : n ≤ sizeLine := by rw [sizeLine_eq]; exact h
theorem sz_lt {n : Nat} (h : n < sz) : n < sizeLine := by rw [sizeLine_eq]; exact h
theorem s2_addS : S2 Fw.rAddS jS jS (sF jS) (fun x y => pck (x.length + y.length ≤ sz) (x ++ y)) := ⟨fun s0 r1 r2 e k => by
  obtain ⟨p, rfl⟩ := pck_some e
  exact ⟨_, _, r1.1, r2.1, sz_le p, k _ _ _ [] (Step.nil s0) ⟨rfl, rfl, okS_app r1.2 r2.2⟩⟩⟩
theorem s2_mulS : S2 rMulS jS jI (sF jS) (fun x y => pck ((0 ≤ y ∧ y < 1073741824) ∧ x.length * y.toNat ≤ sz) (List.replicate y.toNat x).flatten) := ⟨fun s0 r1 r2 e k => by
  obtain ⟨p, rfl⟩ := pck_some e
  exact ⟨_, _, r1.1, r2, p.1.1, p.1.2, sz_le p.2, k _ _ _ [] (Step.nil s0) ⟨rfl, rfl, okS_flat fun x hx => by rw [(List.mem_replicate.mp hx).2]; exact r1.2⟩⟩⟩
/-- x[i], from either end -/
def pat {τ : Type} (xs : List τ) (i : Int) : Option τ := atI xs i
theorem pat_mem {τ : Type} {xs : List τ} {i : Int} {x : τ} (h : pat xs i = some x) : x ∈ xs := by
  unfold pat atI at h
  cases hj : ixN xs.length i with
  | none => rw [hj] at h; cases h
  | some j => rw [hj] at h; exact List.mem_of_getElem? h
def pixS (x : List Nat) (y : Int) : Option (List Nat) := ob (pck (x.length ≤ sz) ()) fun _ => (pat x y).map fun c => [c]
theorem s2_ixS : S2 rIxSg jS jI (sF jS) (fun x y => pixS x y) := ⟨fun s0 r1 r2 e k => by
  unfold pixS at e
  obtain ⟨_, e1, e⟩ := ob_some e
  obtain ⟨p, _⟩ := pck_some e1
  cases h : pat _ _ with
  | none => rw [h] at e; cases e
  | some c =>
    rw [h] at e
    cases e
    exact ⟨_, _, c, r1.1, r2, sz_le p, h, k _ _ _ [] (Step.nil s0) ⟨rfl, rfl, okS_sub r1.2 fun d hd => by rw [List.mem_singleton.mp hd]; exact pat_mem h⟩⟩⟩
theorem paired_len {R : Rp α} {F : Hp} {vs : List V} {xs : List α} (h : Paired (R.r F) vs xs) : vs.length = xs.length := Paired.len h
theorem pat_paired {R : α → β → Prop} {vs : List α} {xs : List β} {i : Int} {x : β} (h : Paired R vs xs) (e : pat xs i = some x) : ∃ v, atI vs i = some v ∧ R v x := by
  unfold pat atI at e
  unfold atI
  rw [Paired.len h]
  cases hj : ixN xs.length i with
  | none => rw [hj] at e; cases e
  | some j =>
    rw [hj] at e
    exact Paired.at h e
theorem s2_ixL : S2 (rIxL K) (jL A) jI (sF A) (fun x y => pat x y) := ⟨fun s0 ⟨a, vs, r1, r2, p⟩ r3 e k => by
  obtain ⟨v, h1, h2⟩ := pat_paired p e
  exact ⟨a, vs, _, v, r1, r3, .inl (.inl (s0 _ _ r2)), h1, k _ _ _ [] (Step.nil s0) ⟨rfl, h2⟩⟩⟩
theorem s2_ixQ : S2 (rIxL K) (jQ K A) jI (sF A) (fun x y => pat x y) := ⟨fun s0 ⟨a, vs, r1, r2, p⟩ r3 e k => by
  obtain ⟨v, h1, h2⟩ := pat_paired p e
  exact ⟨a, vs, _, v, r1, r3, s0.seq r2, h1, k _ _ _ [] (Step.nil s0) ⟨rfl, h2⟩⟩⟩
/-- a tuple's part -/
structure Tat (T : Tp ρ') (n : Nat) (i : Nat) (R : Rp α) (g : ρ' → α) : Prop where
  run : ∀ {F : Hp} {vs : List V} {x : ρ'}, T.r F vs x → vs.length = n ∧ ∃ v, vs[i]? = some v ∧ R.r F v (g x)
instance {T : Tp ρ'} {n : Nat} {i : Nat} {R : Rp α} {g : ρ' → α} : CoeFun (Tat T n i R g) (fun _ => ∀ {F : Hp} {vs : List V} {x : ρ'}, T.r F vs x → vs.length = n ∧ ∃ v, vs[i]? = some v ∧ R.r F v (g x)) := ⟨fun h => h.run⟩
theorem tz1 : Tat (y1 A) 1 0 A (fun x => x) := ⟨fun ⟨v, e, h⟩ => by subst e; exact ⟨rfl, v, rfl, h⟩⟩
theorem tz {T : Tp ρ'} {n j : Nat} {R : Rp β} {g : ρ' → β} (h : Tat T n j R g) : Tat (yC A T) (n + 1) 0 A (fun x => x.1) := ⟨fun ⟨v, r, e, h1, h2⟩ => by
  subst e
  exact ⟨by rw [List.length_cons, (h h2).1], v, rfl, h1⟩⟩
theorem ts {T : Tp ρ'} {n j : Nat} {R : Rp β} {g : ρ' → β} (h : Tat T n j R g) : Tat (yC A T) (n + 1) (j + 1) R (fun x => g x.2) := ⟨fun ⟨v, r, e, h1, h2⟩ => by
  subst e
  obtain ⟨e1, u, e2, e3⟩ := h h2
  exact ⟨by rw [List.length_cons, e1], u, e2, e3⟩⟩
theorem se_ixT {T : Tp ρ'} {n j : Nat} {i : Int} {R : Rp β} {g : ρ' → β} {fa : ρ → Option ρ'} (ha : SE ta E (sF (jT T)) fa) (h : Tat T n j R g) (hi : ixN n i = some j := by rfl) : SE (tOp (rIxT K) ta (tC (.int i))) E (sF R) (fun γ => ob (fa γ) fun x => some (g x)) := ⟨fun s0 hL he e k => by
  obtain ⟨x, e1, e⟩ := ob_some e
  cases e
  refine ha s0 hL he e1 fun v F1 H1 L1 s1 ⟨z1, a, vs, r1, r2, p⟩ => ?_
  subst z1
  obtain ⟨h1, u, h2, h3⟩ := h p
  refine ⟨a, vs, i, u, r1, rfl, .inl (.inl (s1.fh _ _ r2)), ?_, k _ _ _ [] s1 ⟨rfl, h3⟩⟩
  unfold atI
  rw [h1, hi]
  exact h2⟩
/-! tests and choices -/
theorem se_ifE {t : TT} {s : Sl α} {fq : ρ → Option Bool} {fa fb : ρ → Option α} (hc : ST t E fq) (ha : SE ta E s fa) (hb : SE tb E s fb) : SE (tIf t ta tb) E s (fun γ => ob (fq γ) fun b => if b = true then fa γ else fb γ) := ⟨fun s0 hL he e k => by
  obtain ⟨b, e1, e⟩ := ob_some e
  refine hc s0 hL he e1 fun F1 H1 s1 => ?_
  cases b with
  | true =>
    show if true = true then _ else _
    rw [if_pos rfl]
    rw [if_pos rfl] at e
    exact ha s1.fh (hL.mono s1.hh) (E.m s1.f0 he) e fun z F3 H3 L3 s3 r3 => k z F3 H3 L3 (s1.tr s3) r3
  | false =>
    show if false = true then _ else _
    rw [if_neg Bool.false_ne_true]
    rw [if_neg Bool.false_ne_true] at e
    exact hb s1.fh (hL.mono s1.hh) (E.m s1.f0 he) e fun z F3 H3 L3 s3 r3 => k z F3 H3 L3 (s1.tr s3) r3⟩
theorem se_andV {fa fb : ρ → Option Bool} (ha : SE ta E (sF jB) fa) (hb : SE tb E (sF jB) fb) : SE (tAndV ta tb) E (sF jB) (fun γ => ob (fa γ) fun b => if b = true then fb γ else some false) := ⟨fun s0 hL he e k => by
  obtain ⟨b, e1, e⟩ := ob_some e
  refine ha s0 hL he e1 fun v F1 H1 L1 s1 ⟨z1, r1⟩ => ?_
  subst z1
  refine ⟨b, r1, ?_⟩
  cases b with
  | true =>
    rw [if_pos rfl] at e ⊢
    exact hb s1.fh (hL.mono s1.hh) (E.m s1.f0 he) e fun z F3 H3 L3 s3 r3 => k z F3 H3 L3 (s1.tr s3) r3
  | false =>
    rw [if_neg Bool.false_ne_true] at e ⊢
    cases e
    exact k _ _ _ [] s1 ⟨rfl, rfl⟩⟩
theorem se_orV {fa fb : ρ → Option Bool} (ha : SE ta E (sF jB) fa) (hb : SE tb E (sF jB) fb) : SE (tOrV ta tb) E (sF jB) (fun γ => ob (fa γ) fun b => if b = true then some true else fb γ) := ⟨fun s0 hL he e k => by
  obtain ⟨b, e1, e⟩ := ob_some e
  refine ha s0 hL he e1 fun v F1 H1 L1 s1 ⟨z1, r1⟩ => ?_
  subst z1
  refine ⟨b, r1, ?_⟩
  cases b with
  | true =>
    rw [if_pos rfl] at e ⊢
    cases e
    exact k _ _ _ [] s1 ⟨rfl, rfl⟩
  | false =>
    rw [if_neg Bool.false_ne_true] at e ⊢
    exact hb s1.fh (hL.mono s1.hh) (E.m s1.f0 he) e fun z F3 H3 L3 s3 r3 => k z F3 H3 L3 (s1.tr s3) r3⟩
theorem se_notV {fa : ρ → Option Bool} (ha : SE ta E (sF jB) fa) : SE (tNotV ta) E (sF jB) (fun γ => ob (fa γ) fun b => some (!b)) := ⟨fun s0 hL he e k => by
  obtain ⟨b, e1, e⟩ := ob_some e
  cases e
  refine ha s0 hL he e1 fun v F1 H1 L1 s1 ⟨z1, r1⟩ => ?_
  subst z1
  exact ⟨b, r1, k _ _ _ [] s1 ⟨rfl, rfl⟩⟩⟩
theorem se_chain {r r' : R2} {g : α → β → Option Bool} {g' : β → δ → Option Bool} (ha : SE ta E (sF A) fa) (hb : SE tb E (sF B) fb) (hc : SE tc E (sF D) fc) (h1 : S2 r A B (sF jB) g) (h2 : S2 r' B D (sF jB) g') :
    SE (tChain r r' ta tb tc) E (sF jB) (fun γ => ob (fa γ) fun x => ob (fb γ) fun y => ob (g x y) fun b => if b = true then ob (fc γ) fun z => g' y z else some false) := ⟨fun s0 hL he e k => by
  obtain ⟨x, e1, e⟩ := ob_some e
  obtain ⟨y, e2, e⟩ := ob_some e
  obtain ⟨b, e3, e⟩ := ob_some e
  refine ha s0 hL he e1 fun v F1 H1 L1 s1 ⟨z1, r1⟩ => ?_
  subst z1
  refine hb s1.fh (hL.mono s1.hh) (E.m s1.f0 he) e2 fun u F2 H2 L2 s2 ⟨z2, r2⟩ => ?_
  subst z2
  have s12 := s1.tr s2
  refine h1 s2.fh (A.m s2.f0 r1) r2 e3 fun z F3 H3 L3 s3 ⟨z3, r3⟩ => ?_
  subst z3
  have s13 := s12.tr s3
  refine ⟨b, r3, ?_⟩
  cases b with
  | true =>
    rw [if_pos rfl] at e ⊢
    obtain ⟨z', e4, e⟩ := ob_some e
    refine hc s3.fh (hL.mono s13.hh) (E.m s13.f0 he) e4 fun u4 F4 H4 L4 s4 ⟨z4, r4⟩ => ?_
    subst z4
    exact h2 s4.fh (B.m s4.f0 (B.m s3.f0 r2)) r4 e fun z F5 H5 L5 s5 r5 => k z F5 H5 L5 (s13.tr (s4.tr s5)) r5
  | false =>
    rw [if_neg Bool.false_ne_true] at e ⊢
    cases e
    exact k _ _ _ [] s13 ⟨rfl, rfl⟩⟩
theorem st_test {fa : ρ → Option Bool} (ha : SE ta E (sF jB) fa) : ST (tTest ta) E fa := ⟨fun s0 hL he e k => ha s0 hL he e fun v F1 H1 L1 s1 ⟨z1, r1⟩ => by
  subst z1
  exact ⟨_, r1, k _ _ s1⟩⟩
theorem st_B {fa : ρ → Option Bool} (ha : SE ta E (sF jB) fa) : ST (tB ta) E fa := st_test ha
variable {t u : TT} {ft fu : ρ → Option Bool}
theorem st_and (ha : ST t E ft) (hb : ST u E fu) : ST (tAnd t u) E (fun γ => ob (ft γ) fun b => if b = true then fu γ else some false) := ⟨fun s0 hL he e k => by
  obtain ⟨b, e1, e⟩ := ob_some e
  refine ha s0 hL he e1 fun F1 H1 s1 => ?_
  cases b with
  | true =>
    show if true = true then _ else _
    rw [if_pos rfl]
    rw [if_pos rfl] at e
    exact hb s1.fh (hL.mono s1.hh) (E.m s1.f0 he) e fun F3 H3 s3 => k F3 H3 (s1.tr s3)
  | false =>
    show if false = true then _ else _
    rw [if_neg Bool.false_ne_true] at e ⊢
    cases e
    exact k _ _ s1⟩
theorem st_or (ha : ST t E ft) (hb : ST u E fu) : ST (tOr t u) E (fun γ => ob (ft γ) fun b => if b = true then some true else fu γ) := ⟨fun s0 hL he e k => by
  obtain ⟨b, e1, e⟩ := ob_some e
  refine ha s0 hL he e1 fun F1 H1 s1 => ?_
  cases b with
  | true =>
    show if true = true then _ else _
    rw [if_pos rfl] at e ⊢
    cases e
    exact k _ _ s1
  | false =>
    show if false = true then _ else _
    rw [if_neg Bool.false_ne_true] at e ⊢
    exact hb s1.fh (hL.mono s1.hh) (E.m s1.f0 he) e fun F3 H3 s3 => k F3 H3 (s1.tr s3)⟩
theorem st_not (ha : ST t E ft) : ST (tNot t) E (fun γ => ob (ft γ) fun b => some (!b)) := ⟨fun s0 hL he e k => by
  obtain ⟨b, e1, e⟩ := ob_some e
  cases e
  exact ha s0 hL he e1 fun F1 H1 s1 => k _ _ s1⟩
theorem st_yes : ST tYes E (fun _ => some true) := ⟨fun s0 _ _ e k => by
  cases e
  exact k _ _ (Step.nil s0)⟩
/-! argument lists -/
theorem sa_nil : SA tNil E aN (fun _ => some ()) := ⟨fun s0 _ _ e k => k _ _ _ (Step.nil s0) rfl⟩
theorem sa_cons {tr : TA} {T : Ar β} {fr : ρ → Option β} (ha : SE ta E (sF A) fa) (hr : SA tr E T fr) : SA (tCons ta tr) E (aC A T) (fun γ => ob (fa γ) fun x => ob (fr γ) fun y => some (x, y)) := ⟨fun s0 hL he e k => by
  obtain ⟨x, e1, e⟩ := ob_some e
  obtain ⟨y, e2, e⟩ := ob_some e
  cases e
  refine ha s0 hL he e1 fun v F1 H1 L1 s1 ⟨z1, r1⟩ => ?_
  subst z1
  exact hr s1.fh (hL.mono s1.hh) (E.m s1.f0 he) e2 fun vs F2 H2 s2 r2 => k _ _ _ (s1.tr s2) ⟨v, vs, rfl, A.m s2.f0 r1, r2⟩⟩
/-- items of one kind -/
def aL (R : Rp α) : Ar (List α) := ⟨fun F vs xs => Paired (R.r F) vs xs, fun s h => Paired.mono (fun _ _ q => R.m s q) h⟩
theorem sl_nil : SA tNil E (aL A) (fun _ => some []) := ⟨fun s0 _ _ e k => by
  cases e
  exact k _ _ _ (Step.nil s0) .nil⟩
theorem sl_cons {tr : TA} {fr : ρ → Option (List α)} (ha : SE ta E (sF A) fa) (hr : SA tr E (aL A) fr) : SA (tCons ta tr) E (aL A) (fun γ => ob (fa γ) fun x => ob (fr γ) fun y => some (x :: y)) := ⟨fun s0 hL he e k => by
  obtain ⟨x, e1, e⟩ := ob_some e
  obtain ⟨y, e2, e⟩ := ob_some e
  cases e
  refine ha s0 hL he e1 fun v F1 H1 L1 s1 ⟨z1, r1⟩ => ?_
  subst z1
  exact hr s1.fh (hL.mono s1.hh) (E.m s1.f0 he) e2 fun vs F2 H2 s2 r2 => k _ _ _ (s1.tr s2) (.cons (A.m s2.f0 r1) r2)⟩
/-- a tuple's parts -/
def aT (T : Tp α) : Ar α := ⟨T.r, T.m⟩
theorem st1 (ha : SE ta E (sF A) fa) : SA (tCons ta tNil) E (aT (y1 A)) fa := ⟨fun s0 hL he e k => by
  refine ha s0 hL he e fun v F1 H1 L1 s1 ⟨z1, r1⟩ => ?_
  subst z1
  exact k _ _ _ s1 ⟨v, rfl, r1⟩⟩
theorem stC {tr : TA} {T : Tp β} {fr : ρ → Option β} (ha : SE ta E (sF A) fa) (hr : SA tr E (aT T) fr) : SA (tCons ta tr) E (aT (yC A T)) (fun γ => ob (fa γ) fun x => ob (fr γ) fun y => some (x, y)) := ⟨fun s0 hL he e k => by
  obtain ⟨x, e1, e⟩ := ob_some e
  obtain ⟨y, e2, e⟩ := ob_some e
  cases e
  refine ha s0 hL he e1 fun v F1 H1 L1 s1 ⟨z1, r1⟩ => ?_
  subst z1
  exact hr s1.fh (hL.mono s1.hh) (E.m s1.f0 he) e2 fun vs F2 H2 s2 r2 => k _ _ _ (s1.tr s2) ⟨v, vs, rfl, A.m s2.f0 r1, r2⟩⟩
theorem Tp.lenOf {T : Tp ρ'} {n j : Nat} {R : Rp β} {g : ρ' → β} (h : Tat T n j R g) {F : Hp} {vs : List V} {x : ρ'} (r : T.r F vs x) : vs.length = n := (h r).1
theorem se_tup {tA : TA} {T : Tp α} {f : ρ → Option α} {n j : Nat} {R : Rp β} {g : α → β} (h : SA tA E (aT T) f) (hn : Tat T n j R g) (hz : n ≤ sz := by decide) : SE (tTup tA) E (sF (jT T)) f := ⟨fun s0 hL he e k => by
  refine h s0 hL he e fun vs F1 H1 s1 r1 => ?_
  refine ⟨sz_le (by rw [show vs.length = n from (hn r1).1]; exact hz), fun p np => ?_⟩
  have s2 := (Step.nil s1.fh).ice np (.tup vs)
  exact k _ _ _ [] (s1.tr (s2.chunks trivial)) ⟨rfl, p, vs, rfl, upd_same, T.m s2.f0 r1⟩⟩
theorem newL {F H : Hp} {R : Rp α} {vs : List V} {xs : List α} {Q : VK} (s0 : Same F H) (h : Paired (R.r F) vs xs) (k : ∀ z F' H' L, Step F H F' H' L → (sO R).r z F' L xs → Q z H') (p : Addr) (np : H p = none) : Q (.ref p) (upd H p (.lst vs)) :=
  k _ _ _ _ ((Step.nil s0).alloc np (.lst vs)) ⟨p, vs, rfl, rfl, h⟩
theorem se_lst {tA : TA} {f : ρ → Option (List α)} (h : SA tA E (aL A) f) : SE (tLst tA) E (sO A) (fun γ => ob (f γ) fun xs => pck (xs.length ≤ sz) xs) := ⟨fun s0 hL he e k => by
  obtain ⟨xs, e1, e⟩ := ob_some e
  obtain ⟨p, rfl⟩ := pck_some e
  refine h s0 hL he e1 fun vs F1 H1 s1 r1 => ?_
  exact ⟨sz_le (by rw [Paired.len r1]; exact p), fun p np => newL s1.fh r1 (fun z F' H' L s2 r => k z F' H' L (s1.tr s2) r) p np⟩⟩
end
end Mi

namespace Mi
open PySem PySem.Spec PyProof.Rows L2 Fw
section
variable {ρ ρ' ρ'' α β δ ε : Type} {E : En ρ} {E' : En ρ'} {ta tb tc te : TE} {tA : TA} {A : Rp α} {B : Rp β} {D : Rp δ} {fa : ρ → Option α} {fb : ρ → Option β} {fc : ρ → Option δ} {K : PySem.W.Frag}
/-! slices -/
structure SP (t : TO) (E : En ρ) (f : ρ → Option (Option Int)) : Prop where
  run : ∀ {σ : L2.St} {F H : Hp} {L : List (Addr × HO)} {γ : ρ} {x : Option Int} {Q : Option Int → Hp → Prop}, Same F H → Held H L → E.r σ F L γ → f γ = some x →
  (∀ F' H', Step F H F' H' [] → Q x H') → t σ H Q
instance {t : TO} {E : En ρ} {f : ρ → Option (Option Int)} : CoeFun (SP t E f) (fun _ => ∀ {σ : L2.St} {F H : Hp} {L : List (Addr × HO)} {γ : ρ} {x : Option Int} {Q : Option Int → Hp → Prop}, Same F H → Held H L → E.r σ F L γ → f γ = some x →
  (∀ F' H', Step F H F' H' [] → Q x H') → t σ H Q) := ⟨fun h => h.run⟩
theorem sp_no : SP tNoPart E (fun _ => some none) := ⟨fun s0 _ _ e k => by
  cases e
  exact k _ _ (Step.nil s0)⟩
theorem sp_so {fa : ρ → Option Int} (ha : SE ta E (sF jI) fa) : SP (tPart ta) E (fun γ => ob (fa γ) fun x => some (some x)) := ⟨fun s0 hL he e k => by
  obtain ⟨x, e1, e⟩ := ob_some e
  cases e
  refine ha s0 hL he e1 fun v F1 H1 L1 s1 ⟨z1, r1⟩ => ?_
  subst z1
  exact ⟨x, r1, k _ _ s1⟩⟩
/-- xs[lo:hi] -/
def pcut {τ : Type} (xs : List τ) (lo hi : Option Int) : List τ := (xs.drop (HT.sIx xs.length 0 lo)).take (HT.sIx xs.length xs.length hi - HT.sIx xs.length 0 lo)
structure SS3 (r : V → Option Int → Option Int → Hp → VK → Prop) (A : Rp α) (s : Sl β) (g : α → Option Int → Option Int → Option β) : Prop where
  run : ∀ {F H : Hp} {x : V} {a : α} {lo hi : Option Int} {c : β} {Q : VK}, Same F H → A.r F x a → g a lo hi = some c →
  (∀ z F' H' L, Step F H F' H' L → s.r z F' L c → Q z H') → r x lo hi H Q
instance {r : V → Option Int → Option Int → Hp → VK → Prop} {A : Rp α} {s : Sl β} {g : α → Option Int → Option Int → Option β} : CoeFun (SS3 r A s g) (fun _ => ∀ {F H : Hp} {x : V} {a : α} {lo hi : Option Int} {c : β} {Q : VK}, Same F H → A.r F x a → g a lo hi = some c →
  (∀ z F' H' L, Step F H F' H' L → s.r z F' L c → Q z H') → r x lo hi H Q) := ⟨fun h => h.run⟩
theorem se_sl {r : V → Option Int → Option Int → Hp → VK → Prop} {tl th : TO} {fl fh : ρ → Option (Option Int)} {s : Sl β} {g : α → Option Int → Option Int → Option β} (ha : SE ta E (sF A) fa) (hl : SP tl E fl) (hh : SP th E fh) (hs : SS3 r A s g) :
    SE (tSl r ta tl th) E s (fun γ => ob (fa γ) fun x => ob (fl γ) fun lo => ob (fh γ) fun hi => g x lo hi) := ⟨fun s0 hL he e k => by
  obtain ⟨x, e1, e⟩ := ob_some e
  obtain ⟨lo, e2, e⟩ := ob_some e
  obtain ⟨hi, e3, e⟩ := ob_some e
  refine ha s0 hL he e1 fun v F1 H1 L1 s1 ⟨z1, r1⟩ => ?_
  subst z1
  refine hl s1.fh (hL.mono s1.hh) (E.m s1.f0 he) e2 fun F2 H2 s2 => ?_
  have s12 := s1.tr s2
  refine hh s2.fh (hL.mono s12.hh) (E.m s12.f0 he) e3 fun F3 H3 s3 => ?_
  exact hs s3.fh (A.m s3.f0 (A.m s2.f0 r1)) e fun z F5 H5 L5 s5 r5 => k z F5 H5 L5 (s12.tr (s3.tr s5)) r5⟩
theorem s3_S : SS3 rSlSg jS (sF jS) (fun x lo hi => pck (x.length ≤ sz) (pcut x lo hi)) := ⟨fun s0 r1 e k => by
  obtain ⟨p, rfl⟩ := pck_some e
  exact ⟨_, r1.1, sz_le p, k _ _ _ [] (Step.nil s0) ⟨rfl, rfl, okS_sub r1.2 fun c hc => List.mem_of_mem_drop (List.mem_of_mem_take hc)⟩⟩⟩
theorem pcut_paired {R : α → β → Prop} {vs : List α} {xs : List β} {lo hi : Option Int} (h : Paired R vs xs) : Paired R (pcut vs lo hi) (pcut xs lo hi) := by
  unfold pcut
  rw [Paired.len h]
  exact Paired.tk _ (Paired.dp _ h)
theorem s3_L : SS3 (rSlL K) (jL A) (sO A) (fun x lo hi => some (pcut x lo hi)) := ⟨fun s0 ⟨a, vs, r1, r2, p⟩ e k => by
  cases e
  exact ⟨a, vs, r1, .inl (.inl (s0 _ _ r2)), newL s0 (pcut_paired p) k⟩⟩
/-! calls of built-in things -/
structure SC (r : List V → Hp → VK → Prop) (A : Ar α) (s : Sl δ) (g : α → Option δ) : Prop where
  run : ∀ {F H : Hp} {vs : List V} {a : α} {c : δ} {Q : VK}, Same F H → A.r F vs a → g a = some c →
  (∀ z F' H' L, Step F H F' H' L → s.r z F' L c → Q z H') → r vs H Q
theorem se_cb {r : List V → Hp → VK → Prop} {Ar : Ar α} {s : Sl δ} {g : α → Option δ} {f : ρ → Option α} (h : SA tA E Ar f) (hs : SC r Ar s g) : SE (tCB r tA) E s (fun γ => ob (f γ) g) := ⟨fun s0 hL he e k => by
  obtain ⟨x, e1, e⟩ := ob_some e
  refine h s0 hL he e1 fun vs F1 H1 s1 r1 => ?_
  exact hs.run s1.fh r1 e fun z F5 H5 L5 s5 r5 => k z F5 H5 L5 (s1.tr s5) r5⟩
theorem sc_val {r : List V → Hp → VK → Prop} {Ar : Ar α} {g : α → δ} (h : ∀ {F H : Hp} {vs : List V} {a : α} {Q : VK}, Same F H → Ar.r F vs a → (∀ z, D.r F z (g a) → Q z H) → r vs H Q) : SC r Ar (sF D) (fun x => some (g x)) := ⟨fun s0 r1 e k => by
  cases e
  exact h s0 r1 fun z rz => k z _ _ [] (Step.nil s0) ⟨rfl, rz⟩⟩
theorem sc_lenS : SC rLenS (aC jS aN) (sF jI) (fun x => pck (x.1.length ≤ sz) (x.1.length : Int)) := ⟨fun {_ _ _ a _ _} s0 ⟨v, r, e1, r1, e2⟩ e k => by
  obtain ⟨p, rfl⟩ := pck_some e
  subst e1 e2
  refine ⟨a.1, ?_, sz_le p, k _ _ _ [] (Step.nil s0) ⟨rfl, rfl⟩⟩
  rw [show v = vS a.1 from r1.1]⟩
theorem sc_lenL : SC (rLenQ K) (aC (jL A) aN) (sF jI) (fun x => some (x.1.length : Int)) := sc_val fun s0 ⟨v, r, e1, ⟨a, vs, e3, h, p⟩, e2⟩ k => by
  subst e1 e2 e3
  exact ⟨a, vs, rfl, .inl (.inl (.inl (s0 _ _ h))), by rw [Paired.len p]; exact k _ rfl⟩
theorem sc_lenQ : SC (rLenQ K) (aC (jQ K A) aN) (sF jI) (fun x => some (x.1.length : Int)) := sc_val fun s0 ⟨v, r, e1, ⟨a, vs, e3, h, p⟩, e2⟩ k => by
  subst e1 e2 e3
  exact ⟨a, vs, rfl, .inl (s0.seq h), by rw [Paired.len p]; exact k _ rfl⟩
theorem sc_lenT {T : Tp α} {n j : Nat} {R : Rp β} {g : α → β} (ht : Tat T n j R g) : SC (rLenQ K) (aC (jT T) aN) (sF jI) (fun _ => some (n : Int)) := sc_val fun s0 ⟨v, r, e1, ⟨a, vs, e3, h, p⟩, e2⟩ k => by
  subst e1 e2 e3
  exact ⟨a, vs, rfl, .inr (.inl (.inl (s0 _ _ h))), by rw [(ht p).1]; exact k _ rfl⟩
theorem sc_abs : SC rAbs (aC jI aN) (sF jI) (fun x => some (x.1.natAbs : Int)) := sc_val fun {_ _ _ a _} s0 ⟨v, r, e1, r1, e2⟩ k => by
  subst e1 e2
  exact ⟨a.1, by rw [show v = .int a.1 from r1], k _ rfl⟩
theorem sc_int : SC rInt (aC jI aN) (sF jI) (fun x => some x.1) := sc_val fun {_ _ _ a _} s0 ⟨v, r, e1, r1, e2⟩ k => by
  subst e1 e2
  exact ⟨a.1, by rw [show v = .int a.1 from r1], k _ rfl⟩
theorem sc_intB : SC rIntB (aC jB aN) (sF jI) (fun x => some (if x.1 = true then 1 else 0)) := sc_val fun {_ _ _ a _} s0 ⟨v, r, e1, r1, e2⟩ k => by
  subst e1 e2
  exact ⟨a.1, by rw [show v = .bl a.1 from r1], k _ rfl⟩
theorem sc_min2 : SC rMin2' (aC jI (aC jI aN)) (sF jI) (fun x => some (min x.1 x.2.1)) := sc_val fun {_ _ _ a _} s0 ⟨v, r, e1, r1, v2, r', e2, r2, e3⟩ k => by
  subst e1 e2 e3
  exact ⟨a.1, a.2.1, by rw [show v = .int a.1 from r1, show v2 = .int a.2.1 from r2], k _ rfl⟩
theorem sc_max2 : SC rMax2' (aC jI (aC jI aN)) (sF jI) (fun x => some (max x.1 x.2.1)) := sc_val fun {_ _ _ a _} s0 ⟨v, r, e1, r1, v2, r', e2, r2, e3⟩ k => by
  subst e1 e2 e3
  exact ⟨a.1, a.2.1, by rw [show v = .int a.1 from r1, show v2 = .int a.2.1 from r2], k _ rfl⟩
theorem sc_min3 : SC rMin3' (aC jI (aC jI (aC jI aN))) (sF jI) (fun x => some (min (min x.1 x.2.1) x.2.2.1)) := sc_val fun {_ _ _ a _} s0 ⟨v, r, e1, r1, v2, r', e2, r2, v3, r'', e3, r3, e4⟩ k => by
  subst e1 e2 e3 e4
  exact ⟨a.1, a.2.1, a.2.2.1, by rw [show v = .int a.1 from r1, show v2 = .int a.2.1 from r2, show v3 = .int a.2.2.1 from r3], k _ rfl⟩
theorem ints_of {F : Hp} {vs : List V} {ns : List Int} (h : Paired (jI.r F) vs ns) : vs = ns.map V.int := Paired.ofMap (fun _ _ r => r) h
theorem strs_of {F : Hp} {vs : List V} {ns : List (List Nat)} (h : Paired (jS.r F) vs ns) : vs = ns.map vS := Paired.ofMap (fun _ _ r => r.1) h
theorem bls_of {F : Hp} {vs : List V} {ns : List Bool} (h : Paired (jB.r F) vs ns) : vs = ns.map V.bl := Paired.ofMap (fun _ _ r => r) h
theorem sc_sum : SC (rSum K) (aC (jL jI) aN) (sF jI) (fun x => some x.1.sum) := sc_val fun s0 ⟨v, r, e1, ⟨a, vs, e3, h, p⟩, e2⟩ k => by
  subst e1 e2 e3
  exact ⟨a, _, rfl, .inl (.inl (by rw [← ints_of p]; exact s0 _ _ h)), k _ rfl⟩
theorem sc_all : SC (rAll K) (aC (jL jB) aN) (sF jB) (fun x => some (x.1.all id)) := sc_val fun s0 ⟨v, r, e1, ⟨a, vs, e3, h, p⟩, e2⟩ k => by
  subst e1 e2 e3
  exact ⟨a, _, rfl, .inl (.inl (by rw [← bls_of p]; exact s0 _ _ h)), k _ rfl⟩
theorem sc_any : SC (rAny K) (aC (jL jB) aN) (sF jB) (fun x => some (x.1.any id)) := sc_val fun s0 ⟨v, r, e1, ⟨a, vs, e3, h, p⟩, e2⟩ k => by
  subst e1 e2 e3
  exact ⟨a, _, rfl, .inl (.inl (by rw [← bls_of p]; exact s0 _ _ h)), k _ rfl⟩
/-- least, greatest -/
def pmin : List Int → Option Int
  | [] => none
  | x :: xs => some (xs.foldl min x)
def pmax : List Int → Option Int
  | [] => none
  | x :: xs => some (xs.foldl max x)
theorem foldl_min : ∀ (xs : List Int) (x : Int), xs.foldl min x ≤ x ∧ (∀ y ∈ xs, xs.foldl min x ≤ y) ∧ (xs.foldl min x = x ∨ xs.foldl min x ∈ xs)
  | [], x => ⟨Int.le_refl _, fun _ h => (nomatch h), .inl rfl⟩
  | y :: ys, x => by
    obtain ⟨h1, h2, h3⟩ := foldl_min ys (min x y)
    rw [List.foldl_cons]
    refine ⟨by omega, fun z hz => ?_, ?_⟩
    · rcases List.mem_cons.mp hz with e | hz
      · subst e; omega
      · exact h2 z hz
    · rcases h3 with h3 | h3
      · rw [h3]
        by_cases hxy : x ≤ y
        · exact .inl (by omega)
        · exact .inr (by rw [show min x y = y by omega]; exact List.mem_cons_self)
      · exact .inr (List.mem_cons_of_mem _ h3)
theorem foldl_max : ∀ (xs : List Int) (x : Int), x ≤ xs.foldl max x ∧ (∀ y ∈ xs, y ≤ xs.foldl max x) ∧ (xs.foldl max x = x ∨ xs.foldl max x ∈ xs)
  | [], x => ⟨Int.le_refl _, fun _ h => (nomatch h), .inl rfl⟩
  | y :: ys, x => by
    obtain ⟨h1, h2, h3⟩ := foldl_max ys (max x y)
    rw [List.foldl_cons]
    refine ⟨by omega, fun z hz => ?_, ?_⟩
    · rcases List.mem_cons.mp hz with e | hz
      · subst e; omega
      · exact h2 z hz
    · rcases h3 with h3 | h3
      · rw [h3]
        by_cases hxy : y ≤ x
        · exact .inl (by omega)
        · exact .inr (by rw [show max x y = y by omega]; exact List.mem_cons_self)
      · exact .inr (List.mem_cons_of_mem _ h3)
theorem pmin_spec {ns : List Int} {m : Int} (h : pmin ns = some m) : m ∈ ns ∧ ∀ y ∈ ns, m ≤ y := by
  cases ns with
  | nil => cases h
  | cons x xs =>
    cases h
    obtain ⟨h1, h2, h3⟩ := foldl_min xs x
    refine ⟨?_, fun y hy => ?_⟩
    · rcases h3 with h3 | h3
      · rw [h3]; exact List.mem_cons_self
      · exact List.mem_cons_of_mem _ h3
    · rcases List.mem_cons.mp hy with e | hy
      · subst e; exact h1
      · exact h2 y hy
theorem pmax_spec {ns : List Int} {m : Int} (h : pmax ns = some m) : m ∈ ns ∧ ∀ y ∈ ns, y ≤ m := by
  cases ns with
  | nil => cases h
  | cons x xs =>
    cases h
    obtain ⟨h1, h2, h3⟩ := foldl_max xs x
    refine ⟨?_, fun y hy => ?_⟩
    · rcases h3 with h3 | h3
      · rw [h3]; exact List.mem_cons_self
      · exact List.mem_cons_of_mem _ h3
    · rcases List.mem_cons.mp hy with e | hy
      · subst e; exact h1
      · exact h2 y hy
theorem pmin_is {ns : List Int} {m : Int} (h1 : m ∈ ns) (h2 : ∀ y ∈ ns, m ≤ y) : pmin ns = some m := by
  cases h : pmin ns with
  | none => cases ns with
    | nil => cases h1
    | cons x xs => cases h
  | some k =>
    obtain ⟨k1, k2⟩ := pmin_spec h
    have a := k2 m h1
    have b := h2 k k1
    rw [show k = m by omega]
theorem pmax_is {ns : List Int} {m : Int} (h1 : m ∈ ns) (h2 : ∀ y ∈ ns, y ≤ m) : pmax ns = some m := by
  cases h : pmax ns with
  | none => cases ns with
    | nil => cases h1
    | cons x xs => cases h
  | some k =>
    obtain ⟨k1, k2⟩ := pmax_spec h
    have a := k2 m h1
    have b := h2 k k1
    rw [show k = m by omega]
theorem sc_min : SC (rMin K) (aC (jL jI) aN) (sF jI) (fun x => pmin x.1) := ⟨fun {_ _ _ a c _} s0 ⟨v, r, e1, ⟨p, vs, e3, h, q⟩, e2⟩ e k => by
  subst e1 e2 e3
  obtain ⟨h1, h2⟩ := pmin_spec e
  refine ⟨p, _, rfl, .inl (.inl (by rw [← ints_of q]; exact s0 _ _ h)), List.length_pos_of_mem h1, fun m m1 m2 => ?_⟩
  have a := h2 m m1
  have b := m2 c h1
  rw [show m = c by omega]
  exact k _ _ _ [] (Step.nil s0) ⟨rfl, rfl⟩⟩
theorem sc_max : SC (rMax K) (aC (jL jI) aN) (sF jI) (fun x => pmax x.1) := ⟨fun {_ _ _ a c _} s0 ⟨v, r, e1, ⟨p, vs, e3, h, q⟩, e2⟩ e k => by
  subst e1 e2 e3
  obtain ⟨h1, h2⟩ := pmax_spec e
  refine ⟨p, _, rfl, .inl (.inl (by rw [← ints_of q]; exact s0 _ _ h)), List.length_pos_of_mem h1, fun m m1 m2 => ?_⟩
  have a := h2 m m1
  have b := m2 c h1
  rw [show m = c by omega]
  exact k _ _ _ [] (Step.nil s0) ⟨rfl, rfl⟩⟩
theorem sc_listL : SC (rListQ K) (aC (jL A) aN) (sO A) (fun x => pck (x.1.length ≤ sz) x.1) := ⟨fun s0 ⟨v, r, e1, ⟨a, vs, e3, h, q⟩, e2⟩ e k => by
  obtain ⟨p, rfl⟩ := pck_some e
  subst e1 e2 e3
  have hz := sz_le (by rw [← Paired.len q] at p; exact p)
  exact ⟨a, vs, rfl, .inl (.inl (.inl (s0 _ _ h))), hz, hz, fun p np => newL s0 q k p np⟩⟩
theorem sc_listS : SC rListS (aC jS aN) (sO jS) (fun x => pck (x.1.length ≤ sz) (x.1.map fun c => [c])) := ⟨fun {H _ _ a _ _} s0 ⟨v, r, e1, r1, e2⟩ e k => by
  obtain ⟨p, rfl⟩ := pck_some e
  subst e1 e2
  refine ⟨a.1, by rw [show v = vS a.1 from r1.1], sz_le p, sz_le (by rw [List.length_map]; exact p), fun p np => newL s0 ?_ k p np⟩
  have h2 := r1.2
  clear np p r1
  generalize a.1 = l at h2
  induction l with
  | nil => exact .nil
  | cons c l ih => exact .cons ⟨rfl, fun d hd => by rw [List.mem_singleton.mp hd]; exact h2 c List.mem_cons_self⟩ (ih fun d hd => h2 d (List.mem_cons_of_mem _ hd))⟩
/-- the sorted list of numbers -/
def psort (ns : List Int) : List Int := ns.mergeSort (fun a b => decide (a ≤ b))
theorem psort_perm (ns : List Int) : (psort ns).Perm ns := List.mergeSort_perm _ _
theorem psort_sorted (ns : List Int) : (psort ns).Pairwise (· ≤ ·) := by
  have := List.pairwise_mergeSort (le := fun a b : Int => decide (a ≤ b)) (fun a b c h1 h2 => by simp at *; omega) (fun a b => by simp; omega) ns
  exact this.imp fun h => by simpa using h
theorem sorted_up : ∀ {ms ns : List Int}, ms.Perm ns → ms.Pairwise (· ≤ ·) → ns.Pairwise (· ≤ ·) → ms = ns := fun {ms ns} p h1 h2 =>
  List.Perm.eq_of_pairwise (le := (· ≤ ·)) (fun a b _ _ h1 h2 => by omega) h1 h2 p
theorem sc_sortI : SC (rSortedI K) (aC (jL jI) aN) (sO jI) (fun x => some (psort x.1)) := ⟨fun s0 ⟨v, r, e1, ⟨a, vs, e3, h, q⟩, e2⟩ e k => by
  cases e
  subst e1 e2 e3
  refine ⟨a, _, rfl, .inl (.inl (by rw [← ints_of q]; exact s0 _ _ h)), fun ms p pm od np => ?_⟩
  have em := sorted_up (pm.trans (psort_perm _).symm) od (psort_sorted _)
  subst em
  exact newL s0 (Paired.mk (A := jI.r _) (fun _ => rfl) _) k p np⟩
/-! isinstance -/
theorem sc_isi {r : Rp α} {n : String} {b : Bool} (h : ∀ {F H : Hp} {v : V} {x : α} {Q : VK}, Same F H → r.r F v x → Q (.bl b) H → L2.rIsi K [v, .ty n] H Q) : SC (L2.rIsi K) (aC r (aC (jV (.ty n)) aN)) (sF jB) (fun _ => some b) := sc_val fun s0 ⟨v, r1, e1, r2, v2, r', e2, r3, e3⟩ k => by
  subst e1 e2 e3
  rw [show v2 = .ty n from r3]
  exact h s0 r2 (k _ rfl)
theorem is_II : SC (L2.rIsi K) (aC jI (aC (jV (.ty "int")) aN)) (sF jB) (fun _ => some true) := sc_isi fun s0 r q => by rw [show _ = V.int _ from r]; exact w_isiII q
theorem is_IB : SC (L2.rIsi K) (aC jI (aC (jV (.ty "bool")) aN)) (sF jB) (fun _ => some false) := sc_isi fun s0 r q => by rw [show _ = V.int _ from r]; exact w_isiIB q
theorem is_SS : SC (L2.rIsi K) (aC jS (aC (jV (.ty "str")) aN)) (sF jB) (fun _ => some true) := sc_isi fun s0 r q => by rw [show _ = V.str _ from r.1]; exact w_isiSS q
theorem is_LL : SC (L2.rIsi K) (aC (jL A) (aC (jV (.ty "list")) aN)) (sF jB) (fun _ => some true) := sc_isi fun s0 ⟨a, vs, e, h, _⟩ q => by rw [e]; exact w_isiLL q (s0 _ _ h)
theorem is_TT {T : Tp α} : SC (L2.rIsi K) (aC (jT T) (aC (jV (.ty "tuple")) aN)) (sF jB) (fun _ => some true) := sc_isi fun s0 ⟨a, vs, e, h, _⟩ q => by rw [e]; exact w_isiTT q (s0 _ _ h)
theorem is_NT {n : String} (h : kitB "NoneType" n = some false := by decide +kernel) : SC (L2.rIsi K) (aC jN (aC (jV (.ty n)) aN)) (sF jB) (fun _ => some false) := sc_isi fun s0 r q => by
  rw [show _ = V.non from r]
  exact w_isi (b := true) "NoneType" n false (.base .non) h q
/-! lists -/
theorem s2_cat : S2 rCat (jL A) (jL A) (sO A) (fun x y => pck (x.length + y.length ≤ sz) (x ++ y)) := ⟨fun s0 ⟨a, vs, e1, h1, q1⟩ ⟨b, us, e2, h2, q2⟩ e k => by
  obtain ⟨p, rfl⟩ := pck_some e
  subst e1 e2
  exact ⟨a, b, vs, us, rfl, rfl, s0 _ _ h1, s0 _ _ h2, sz_le (by rw [Paired.len q1, Paired.len q2]; exact p), fun p np => newL s0 (Paired.app q1 q2) k p np⟩⟩
theorem Paired.rep {R : α → β → Prop} {vs : List α} {xs : List β} (h : Paired R vs xs) : ∀ n : Nat, Paired R (List.replicate n vs).flatten (List.replicate n xs).flatten
  | 0 => .nil
  | n + 1 => by
    rw [List.replicate_succ, List.replicate_succ, List.flatten_cons, List.flatten_cons]
    exact Paired.app h (Paired.rep h n)
/-- xs * k -/
def prep {τ : Type} (xs : List τ) (k : Int) : List τ := (List.replicate k.toNat xs).flatten
theorem s2_rep : S2 rRep (jL A) jI (sO A) (fun x k => pck ((-9223372036854775808 ≤ k ∧ k < 9223372036854775808) ∧ x.length * k.toNat ≤ sz) (prep x k)) := ⟨fun s0 ⟨a, vs, e1, h1, q1⟩ r2 e k => by
  obtain ⟨p, rfl⟩ := pck_some e
  subst e1
  exact ⟨a, _, vs, rfl, r2, s0 _ _ h1, p.1.1, p.1.2, sz_le (by rw [Paired.len q1]; exact p.2), fun p np => newL s0 (Paired.rep q1 _) k p np⟩⟩
/-! texts -/
def pinS (x y : List Nat) : Option Bool := match x with | [c] => some (decide (c ∈ y)) | _ => none
def pninS (x y : List Nat) : Option Bool := match x with | [c] => some (!decide (c ∈ y)) | _ => none
theorem s2_inS : S2 rInSg jS jS (sF jB) (fun x y => pinS x y) := ⟨fun {_ _ _ _ x y _ _} s0 r1 r2 e k => by
  match x, r1, e with
  | [c], r1, e =>
    cases e
    exact ⟨c, y, r1.1, r2.1, k _ _ _ [] (Step.nil s0) ⟨rfl, rfl⟩⟩⟩
theorem s2_notInS : S2 rNotInSg jS jS (sF jB) (fun x y => pninS x y) := ⟨fun {_ _ _ _ x y _ _} s0 r1 r2 e k => by
  match x, r1, e with
  | [c], r1, e =>
    cases e
    exact ⟨c, y, r1.1, r2.1, k _ _ _ [] (Step.nil s0) ⟨rfl, rfl⟩⟩⟩
theorem eqV_str (x y : List Nat) : eqV (vS y) (vS x) = decide (x = y) := by
  show decide (S y = S x) = _
  rw [show decide (S y = S x) = decide (x = y) from decide_eq_decide.mpr ⟨fun h => (S_inj.mp h).symm, fun h => by rw [h]⟩]
theorem inV_str (x : List Nat) : ∀ ys : List (List Nat), inV (vS x) (ys.map vS) = decide (x ∈ ys)
  | [] => rfl
  | y :: ys => by
    have := inV_str x ys
    show (eqV (vS y) (vS x) || inV (vS x) (ys.map vS)) = _
    rw [this, eqV_str]
    by_cases h : x = y
    · rw [decide_eq_true h, decide_eq_true (show x ∈ y :: ys from by rw [h]; exact List.mem_cons_self)]; rfl
    · rw [decide_eq_false h, Bool.false_or, decide_eq_decide, List.mem_cons]
      exact ⟨.inr, fun q => q.elim (fun z => absurd z h) id⟩
theorem flat_strs (ys : List (List Nat)) : (ys.map vS).all flatV = true := by
  induction ys with
  | nil => rfl
  | cons y ys ih => exact ih
theorem s2_inLS : S2 (rIn K false) jS (jL jS) (sF jB) (fun x ys => some (decide (x ∈ ys))) := ⟨fun s0 r1 ⟨a, vs, e1, h1, q1⟩ e k => by
  cases e
  have ev := strs_of q1
  subst e1 ev
  rw [show _ = vS _ from r1.1]
  exact ⟨a, _, rfl, .inl (.inl (.inl (s0 _ _ h1))), rfl, flat_strs _, by rw [if_neg Bool.false_ne_true, inV_str]; exact k _ _ _ [] (Step.nil s0) ⟨rfl, rfl⟩⟩⟩
theorem s2_notInLS : S2 (rIn K true) jS (jL jS) (sF jB) (fun x ys => some (!decide (x ∈ ys))) := ⟨fun s0 r1 ⟨a, vs, e1, h1, q1⟩ e k => by
  cases e
  have ev := strs_of q1
  subst e1 ev
  rw [show _ = vS _ from r1.1]
  exact ⟨a, _, rfl, .inl (.inl (.inl (s0 _ _ h1))), rfl, flat_strs _, by rw [if_pos rfl, inV_str]; exact k _ _ _ [] (Step.nil s0) ⟨rfl, rfl⟩⟩⟩
/-- a text's method with one argument -/
abbrev SM (r : V → List V → Hp → VK → Prop) (A : Rp α) (B : Rp β) (s : Sl δ) (g : α → β → Option δ) : Prop := S2 (fun x y => r x [y]) A B s g
theorem se_m1 {r : V → List V → Hp → VK → Prop} {s : Sl δ} {fa : ρ → Option (List Nat)} {g : List Nat → β → Option δ} (ha : SE ta E (sF jS) fa) (hb : SE tb E (sF B) fb) (hs : SM r jS B s g) : SE (tM1 r ta tb) E s (fun γ => ob (fa γ) fun x => ob (fb γ) fun y => g x y) := ⟨fun s0 hL he e k => by
  obtain ⟨x, e1, e⟩ := ob_some e
  obtain ⟨y, e2, e⟩ := ob_some e
  refine ha s0 hL he e1 fun v F1 H1 L1 s1 ⟨z1, r1⟩ => ?_
  subst z1
  refine ⟨⟨S x, r1.1⟩, ?_⟩
  refine hb s1.fh (hL.mono s1.hh) (E.m s1.f0 he) e2 fun u F2 H2 L2 s2 ⟨z2, r2⟩ => ?_
  subst z2
  exact hs s2.fh (jS.m s2.f0 r1) r2 e fun z F3 H3 L3 s3 r3 => k z F3 H3 L3 (s1.tr (s2.tr s3)) r3⟩
theorem oks_of {F : Hp} : ∀ {vs : List V} {ys : List (List Nat)}, Paired (jS.r F) vs ys → ∀ y ∈ ys, okS y
  | _, _, .nil, _, h => nomatch h
  | _, _, .cons r t, y, h => by
    rcases List.mem_cons.mp h with e | h
    · rw [e]; exact r.2
    · exact oks_of t y h
theorem okS_join {x : List Nat} (hx : okS x) : ∀ {ys : List (List Nat)}, (∀ y ∈ ys, okS y) → okS (joinN x ys)
  | [], _ => okS_nil
  | [y], h => h y List.mem_cons_self
  | y :: z :: r, h => by
    rw [joinN_cons]
    exact okS_app (h y List.mem_cons_self) (okS_app hx (okS_join hx fun w hw => h w (List.mem_cons_of_mem _ hw)))
theorem sm_join : SM (rJoin K) jS (jL jS) (sF jS) (fun x ys => pck ((ys.map List.length).sum + ys.length * x.length ≤ sz) (joinN x ys)) := ⟨fun s0 r1 ⟨a, vs, e1, h1, q1⟩ e k => by
  obtain ⟨p, rfl⟩ := pck_some e
  have ev := strs_of q1
  subst e1 ev
  exact ⟨_, a, _, r1.1, rfl, .inl (.inl (.inl (s0 _ _ h1))), p, k _ _ _ [] (Step.nil s0) ⟨rfl, rfl, okS_join r1.2 (oks_of q1)⟩⟩⟩
def pidx (x y : List Nat) : Option Int := match y with | [c] => pck (c ∈ x) (x.idxOf c : Int) | _ => none
theorem sm_idx : SM rIdxS jS jS (sF jI) (fun x y => pidx x y) := ⟨fun {_ _ _ _ x y _ _} s0 r1 r2 e k => by
  match y, r2, e with
  | [c], r2, e =>
    obtain ⟨p, rfl⟩ := pck_some e
    exact ⟨x, c, r1.1, by rw [show _ = vS [c] from r2.1], p, k _ _ _ [] (Step.nil s0) ⟨rfl, rfl⟩⟩⟩
theorem sm_starts : SM rStarts jS jS (sF jB) (fun x y => some (y.isPrefixOf x)) := ⟨fun {_ _ _ _ x y _ _} s0 r1 r2 e k => by
  cases e
  exact ⟨x, y, r1.1, by rw [show _ = vS y from r2.1], k _ _ _ [] (Step.nil s0) ⟨rfl, rfl⟩⟩⟩
end
end Mi

namespace Mi
open PySem PySem.Spec PyProof.Rows L2 Fw
section
variable {ρ ρ' ρ'' α β δ ε κ : Type} {E : En ρ} {E' : En ρ'} {ta tb tc te : TE} {tA : TA} {A : Rp α} {B : Rp β} {D : Rp δ} {fa : ρ → Option α} {fb : ρ → Option β} {fc : ρ → Option δ} {K : PySem.W.Frag}
theorem Step.at {F H H3 : Hp} (e : H3 = H) (s : Same F H) : Step F H F H3 [] := by
  subst e
  exact Step.nil s
/-! ### what a loop walks -/
structure ItOk (J : It) (F' : Hp) (R : Rp α) (xs : List α) : Prop where
  one : ∀ {i : Nat} {F2 H2 : Hp} {x : α}, Same F' F2 → Same F2 H2 → xs[i]? = some x → J.go i H2 ∧ ∀ v H3, J.yld i H2 v H3 → ∃ F3, Step F2 H2 F3 H3 [] ∧ R.r F3 v x
  stop : ∀ {F2 H2 : Hp}, Same F' F2 → Same F2 H2 → J.stop xs.length H2
structure SI (wi : TI) (E : En ρ) (R : Rp α) (f : ρ → Option (List α)) : Prop where
  run : ∀ {σ : L2.St} {F H : Hp} {L : List (Addr × HO)} {γ : ρ} {xs : List α} {Q : It → Hp → Prop}, Same F H → Held H L → E.r σ F L γ → f γ = some xs → (∀ J F' H', Step F H F' H' [] → ItOk J F' R xs → Q J H') → wi σ H Q
def prange (n : Int) : List Int := (List.range n.toNat).map fun i : Nat => (i : Int)
def prange2 (a b : Int) : List Int := (List.range (b - a).toNat).map fun i : Nat => a + (i : Int)
theorem itr_ok {lo : Int} {n : Nat} {F : Hp} : ItOk (Itr lo n) F jI ((List.range n).map fun i : Nat => lo + (i : Int)) where
  one {i _ _ x} _ s2 e := by
    rw [List.getElem?_map] at e
    by_cases h : i < n
    · rw [List.getElem?_range h] at e
      cases e
      exact ⟨h, fun v H3 hy => ⟨_, Step.at hy.1 s2, hy.2⟩⟩
    · rw [List.getElem?_eq_none (by rw [List.length_range]; omega)] at e
      cases e
  stop _ _ := by
    show n ≤ _
    rw [List.length_map, List.length_range]
    exact Nat.le_refl _
theorem si_r1 {f : ρ → Option (Int × Unit)} (h : SA tA E (aC jI aN) f) : SI (iRng1 tA) E jI (fun γ => ob (f γ) fun x => pck (-4611686018427387904 ≤ x.1 ∧ x.1 < 4611686018427387904) (prange x.1)) where
  run s0 hL he e k := by
    obtain ⟨x, e1, e⟩ := ob_some e
    obtain ⟨p, rfl⟩ := pck_some e
    refine h s0 hL he e1 fun vs F1 H1 s1 ⟨v, r, z1, r1, z2⟩ => ?_
    subst z1 z2
    refine ⟨x.1, by rw [show v = .int x.1 from r1], p.1, p.2, k _ _ _ s1 ?_⟩
    have := itr_ok (lo := 0) (n := x.1.toNat) (F := F1)
    simp only [Int.zero_add] at this
    exact this
theorem si_r2 {f : ρ → Option (Int × Int × Unit)} (h : SA tA E (aC jI (aC jI aN)) f) : SI (iRng2 tA) E jI (fun γ => ob (f γ) fun x => pck (-4611686018427387904 ≤ x.1 ∧ x.1 < 4611686018427387904 ∧ -4611686018427387904 ≤ x.2.1 ∧ x.2.1 < 4611686018427387904) (prange2 x.1 x.2.1)) where
  run s0 hL he e k := by
    obtain ⟨x, e1, e⟩ := ob_some e
    obtain ⟨p, rfl⟩ := pck_some e
    refine h s0 hL he e1 fun vs F1 H1 s1 ⟨v, r, z1, r1, v2, r', z2, r2, z3⟩ => ?_
    subst z1 z2 z3
    exact ⟨x.1, x.2.1, by rw [show v = .int x.1 from r1, show v2 = .int x.2.1 from r2], p, k _ _ _ s1 itr_ok⟩
def prangeC (a c : Int) (n : Nat) : List Int := (List.range n).map fun i : Nat => a + (i : Int) * c
theorem itc_ok {lo c : Int} {n : Nat} {F : Hp} : ItOk (Itc lo c n) F jI (prangeC lo c n) where
  one {i _ _ x} _ s2 e := by
    unfold prangeC at e
    rw [List.getElem?_map] at e
    by_cases h : i < n
    · rw [List.getElem?_range h] at e
      cases e
      exact ⟨h, fun v H3 hy => ⟨_, Step.at hy.1 s2, hy.2⟩⟩
    · rw [List.getElem?_eq_none (by rw [List.length_range]; omega)] at e
      cases e
  stop _ _ := by
    show n ≤ _
    unfold prangeC
    rw [List.length_map, List.length_range]
    exact Nat.le_refl _
/-- range(a, b, -1) -/
theorem si_rm {f : ρ → Option (Int × Int × Int × Unit)} (h : SA tA E (aC jI (aC jI (aC jI aN))) f) : SI (iRng3 tA) E jI (fun γ => ob (f γ) fun x => pck (x.2.2.1 = -1 ∧ -4611686018427387904 ≤ x.1 ∧ x.1 < 4611686018427387904 ∧ -4611686018427387904 ≤ x.2.1 ∧ x.2.1 < 4611686018427387904) (prangeC x.1 (-1) (x.1 - x.2.1).toNat)) where
  run s0 hL he e k := by
    obtain ⟨x, e1, e⟩ := ob_some e
    obtain ⟨p, rfl⟩ := pck_some e
    refine h s0 hL he e1 fun vs F1 H1 s1 ⟨v, r, z1, r1, v2, r', z2, r2, v3, r'', z3, r3, z4⟩ => ?_
    subst z1 z2 z3 z4
    refine ⟨x.1, x.2.1, -1, _, by rw [show v = .int x.1 from r1, show v2 = .int x.2.1 from r2, show v3 = .int x.2.2.1 from r3, p.1], RgC.neg p.2.1 p.2.2.1 p.2.2.2.1 p.2.2.2.2, k _ _ _ s1 itc_ok⟩
/-- range(0, n, c) -/
theorem si_rc {f : ρ → Option (Int × Int × Int × Unit)} (h : SA tA E (aC jI (aC jI (aC jI aN))) f) : SI (iRng3 tA) E jI (fun γ => ob (f γ) fun x => pck (x.1 = 0 ∧ 0 ≤ x.2.1 ∧ x.2.1 < 2305843009213693952 ∧ 0 < x.2.2.1 ∧ x.2.2.1 < 1073741824) (prangeC 0 x.2.2.1 ((x.2.1.toNat + x.2.2.1.toNat - 1) / x.2.2.1.toNat))) where
  run s0 hL he e k := by
    obtain ⟨x, e1, e⟩ := ob_some e
    obtain ⟨p, rfl⟩ := pck_some e
    refine h s0 hL he e1 fun vs F1 H1 s1 ⟨v, r, z1, r1, v2, r', z2, r2, v3, r'', z3, r3, z4⟩ => ?_
    subst z1 z2 z3 z4
    have g := rgc_pos (n := x.2.1.toNat) (c := x.2.2.1.toNat) (by omega) (by omega)
    rw [Int.toNat_of_nonneg p.2.1, Int.toNat_of_nonneg (by omega : 0 ≤ x.2.2.1)] at g
    exact ⟨0, x.2.1, x.2.2.1, _, by rw [show v = .int x.1 from r1, show v2 = .int x.2.1 from r2, show v3 = .int x.2.2.1 from r3, p.1], g, k _ _ _ s1 itc_ok⟩
theorem itl_ok {a : Addr} {vs : List V} {xs : List α} {F : Hp} (h : SqL K F a vs) (p : Paired (A.r F) vs xs) : ItOk (Itl K a) F A xs where
  one s1 s2 e := by
    have hs := s2.seq (s1.seq h)
    obtain ⟨v, h1, h2⟩ := Paired.at p e
    exact ⟨⟨vs, v, hs, h1⟩, fun u H3 hy => ⟨_, Step.at hy.1 s2, by
      have e2 := (hy.2 vs hs).symm.trans h1
      cases e2
      exact A.m s1 h2⟩⟩
  stop s1 s2 := ⟨vs, s2.seq (s1.seq h), by rw [Paired.len p]; exact Nat.le_refl _⟩
theorem si_list {fa : ρ → Option (List α)} (ha : SE ta E (sF (jL A)) fa) : SI (iList K ta) E A fa where
  run s0 hL he e k := by
    refine ha s0 hL he e fun v F1 H1 L1 s1 ⟨z1, a, vs, r1, r2, p⟩ => ?_
    subst z1
    exact ⟨a, r1, ⟨vs, s1.fh.seq (.inl (.inl r2))⟩, k _ _ _ s1 (itl_ok (.inl (.inl r2)) p)⟩
theorem si_listQ {fa : ρ → Option (List α)} (ha : SE ta E (sF (jQ K A)) fa) : SI (iList K ta) E A fa where
  run s0 hL he e k := by
    refine ha s0 hL he e fun v F1 H1 L1 s1 ⟨z1, a, vs, r1, r2, p⟩ => ?_
    subst z1
    exact ⟨a, r1, ⟨vs, s1.fh.seq r2⟩, k _ _ _ s1 (itl_ok r2 p)⟩
/-- a tuple of things of one kind, walked -/
structure Tls (T : Tp ρ') (R : Rp α) (g : ρ' → List α) : Prop where
  run : ∀ {F : Hp} {vs : List V} {x : ρ'}, T.r F vs x → Paired (R.r F) vs (g x)
instance {T : Tp ρ'} {R : Rp α} {g : ρ' → List α} : CoeFun (Tls T R g) (fun _ => ∀ {F : Hp} {vs : List V} {x : ρ'}, T.r F vs x → Paired (R.r F) vs (g x)) := ⟨fun h => h.run⟩
theorem tl1 : Tls (y1 A) A (fun x => [x]) := ⟨fun ⟨v, e, h⟩ => by
  subst e
  exact .cons h .nil⟩
theorem tlC {T : Tp ρ'} {g : ρ' → List α} (h : Tls T A g) : Tls (yC A T) A (fun x => x.1 :: g x.2) := ⟨fun ⟨v, r, e, h1, h2⟩ => by
  subst e
  exact .cons h1 (h h2)⟩
theorem si_tup {T : Tp ρ'} {g : ρ' → List α} {fa : ρ → Option ρ'} (ha : SE ta E (sF (jT T)) fa) (hg : Tls T A g) : SI (iTup K ta) E A (fun γ => ob (fa γ) fun x => some (g x)) where
  run s0 hL he e k := by
    obtain ⟨x, e1, e⟩ := ob_some e
    cases e
    refine ha s0 hL he e1 fun v F1 H1 L1 s1 ⟨z1, a, vs, r1, r2, p⟩ => ?_
    subst z1
    have h : SqT K F1 a vs := .inl (.inl r2)
    have q := hg p
    refine ⟨a, r1, ⟨vs, Same.sqt s1.fh h⟩, k _ _ _ s1 ⟨fun s1 s2 e => ?_, fun s1 s2 => ⟨vs, Same.sqt s2 (Same.sqt s1 h), by rw [Paired.len q]; exact Nat.le_refl _⟩⟩⟩
    have hs := Same.sqt s2 (Same.sqt s1 h)
    obtain ⟨v, h1, h2⟩ := Paired.at q e
    exact ⟨⟨vs, v, hs, h1⟩, fun u H3 hy => ⟨_, Step.at hy.1 s2, by
      have e2 := (hy.2 vs hs).symm.trans h1
      cases e2
      exact A.m s1 h2⟩⟩
theorem its_ok {l : List Nat} {F : Hp} (hl : okS l) : ItOk (Its (S l)) F jS (l.map fun c => [c]) where
  one {i _ _ x} _ s2 e := by
    rw [List.getElem?_map] at e
    have hsz : (S l).cps.size = l.length := by simp [S]
    cases h : l[i]? with
    | none => rw [h] at e; cases e
    | some c =>
      rw [h] at e
      cases e
      refine ⟨by show i < (S l).cps.size; rw [hsz]; exact (List.getElem?_eq_some_iff.mp h).1, fun v H3 hy => ?_⟩
      obtain ⟨e1, c', e2, e3⟩ := hy
      refine ⟨_, Step.at e1 s2, ?_⟩
      have e4 : l[i]? = some c' := by simpa [S] using e2
      rw [h] at e4
      cases e4
      exact ⟨e3, fun d hd => by rw [List.mem_singleton.mp hd]; exact hl c (List.mem_of_getElem? h)⟩
  stop _ _ := by
    show (S l).cps.size ≤ _
    rw [List.length_map]
    simp [S]
theorem si_str {fa : ρ → Option (List Nat)} (ha : SE ta E (sF jS) fa) : SI (iStr ta) E jS (fun γ => ob (fa γ) fun x => some (x.map fun c => [c])) where
  run s0 hL he e k := by
    obtain ⟨x, e1, e⟩ := ob_some e
    cases e
    refine ha s0 hL he e1 fun v F1 H1 L1 s1 ⟨z1, r1⟩ => ?_
    subst z1
    exact ⟨S x, r1.1, k _ _ _ s1 (its_ok r1.2)⟩
theorem si_rev {fa : ρ → Option (List α × Unit)} (h : SA tA E (aC (jL A) aN) fa) : SI (iRev K tA) E A (fun γ => ob (fa γ) fun x => some x.1.reverse) where
  run s0 hL he e k := by
    obtain ⟨x, e1, e⟩ := ob_some e
    cases e
    refine h s0 hL he e1 fun vs F1 H1 s1 ⟨v, r, z1, ⟨a, us, r1, r2, p⟩, z2⟩ => ?_
    subst z1 z2 r1
    have hq : SqL K F1 a us := .inl (.inl r2)
    have pr := Paired.rev p
    refine ⟨a, us, rfl, s1.fh.seq hq, k _ _ _ s1 ⟨fun {i F2 H2 x} s1 s2 e => ?_, fun s1 s2 => by show us.length ≤ _; rw [List.length_reverse, Paired.len p]; exact Nat.le_refl _⟩⟩
    have hs := s2.seq (s1.seq hq)
    obtain ⟨v, h1, h2⟩ := Paired.at pr e
    have hlt : i < us.length := by
      have := (List.getElem?_eq_some_iff.mp h1).1
      rwa [List.length_reverse] at this
    rw [List.getElem?_reverse hlt] at h1
    exact ⟨⟨hlt, us, v, hs, h1⟩, fun u H3 hy => ⟨_, Step.at hy.1 s2, by
      have e2 := (hy.2 us hs).symm.trans h1
      cases e2
      exact A.m s1 h2⟩⟩
/-- numbered -/
def penum {τ : Type} (xs : List τ) : List (Int × τ) := (List.range xs.length).zip xs |>.map fun p => ((p.1 : Int), p.2)
theorem penum_get {τ : Type} {xs : List τ} {i : Nat} {q : Int × τ} (h : (penum xs)[i]? = some q) : q.1 = (i : Int) ∧ xs[i]? = some q.2 := by
  unfold penum at h
  rw [List.getElem?_map] at h
  cases hz : ((List.range xs.length).zip xs)[i]? with
  | none => rw [hz] at h; cases h
  | some p =>
    rw [hz] at h
    cases h
    obtain ⟨h1, h2⟩ := List.getElem?_zip_eq_some.mp hz
    have h3 := (List.getElem?_eq_some_iff.mp h2).1
    rw [List.getElem?_range h3] at h1
    cases h1
    exact ⟨rfl, h2⟩
theorem penum_len {τ : Type} (xs : List τ) : (penum xs).length = xs.length := by
  unfold penum
  rw [List.length_map, List.length_zip, List.length_range, Nat.min_self]
theorem yieldT {F2 H2 : Hp} {T : Tp α} {t : Addr} {vs : List V} {x : α} (s2 : Same F2 H2) (nt : H2 t = none) (h : T.r F2 vs x) : ∃ F3, Step F2 H2 F3 (upd H2 t (.tup vs)) [] ∧ (jT T).r F3 (.ref t) x := by
  have s3 := (Step.nil s2).ice nt (.tup vs)
  exact ⟨_, s3.chunks trivial, t, vs, rfl, upd_same, T.m s3.f0 h⟩
theorem si_enum {fa : ρ → Option (List α × Unit)} (h : SA tA E (aC (jL A) aN) fa) : SI (iEnum K tA) E (jT (yC jI (y1 A))) (fun γ => ob (fa γ) fun x => some (penum x.1)) where
  run s0 hL he e k := by
    obtain ⟨x, e1, e⟩ := ob_some e
    cases e
    refine h s0 hL he e1 fun vs F1 H1 s1 ⟨v, r, z1, ⟨a, us, r1, r2, p⟩, z2⟩ => ?_
    subst z1 z2 r1
    have hq : SqL K F1 a us := .inl (.inl r2)
    refine ⟨a, us, rfl, s1.fh.seq hq, k _ _ _ s1 ⟨fun {i F2 H2 x} s1 s2 e => ?_, fun s1 s2 => ⟨us, s2.seq (s1.seq hq), by rw [penum_len, Paired.len p]; exact Nat.le_refl _⟩⟩⟩
    have hs := s2.seq (s1.seq hq)
    obtain ⟨g1, g2⟩ := penum_get e
    obtain ⟨v, h1, h2⟩ := Paired.at p g2
    refine ⟨⟨us, v, hs, h1⟩, fun u H3 hy => ?_⟩
    obtain ⟨t, v', rfl, nt, rfl, hv⟩ := hy
    have e2 := (hv us hs).symm.trans h1
    cases e2
    exact yieldT s2 nt ⟨_, _, rfl, by show V.int _ = V.int _; rw [g1], _, rfl, A.m s1 h2⟩
theorem si_zip {fa : ρ → Option (List α × List β × Unit)} (h : SA tA E (aC (jL A) (aC (jL B) aN)) fa) : SI (iZip K tA) E (jT (yC A (y1 B))) (fun γ => ob (fa γ) fun x => some (x.1.zip x.2.1)) where
  run s0 hL he e k := by
    obtain ⟨x, e1, e⟩ := ob_some e
    cases e
    refine h s0 hL he e1 fun vs F1 H1 s1 ⟨v, r, z1, ⟨a, us, r1, r2, p⟩, v', r', z2, ⟨b, ws, r3, r4, q⟩, z3⟩ => ?_
    subst z1 z2 z3 r1 r3
    have hq : SqL K F1 a us := .inl (.inl r2)
    have hq2 : SqL K F1 b ws := .inl (.inl r4)
    refine ⟨a, b, us, ws, rfl, s1.fh.seq hq, s1.fh.seq hq2, k _ _ _ s1 ⟨fun {i F2 H2 x} s1 s2 e => ?_, fun s1 s2 => ⟨us, ws, s2.seq (s1.seq hq), s2.seq (s1.seq hq2), by rw [Paired.len p, Paired.len q, List.length_zip]; omega⟩⟩⟩
    have hs := s2.seq (s1.seq hq)
    have hs2 := s2.seq (s1.seq hq2)
    obtain ⟨g1, g2⟩ := List.getElem?_zip_eq_some.mp e
    obtain ⟨v, h1, h2⟩ := Paired.at p g1
    obtain ⟨w, h3, h4⟩ := Paired.at q g2
    refine ⟨⟨us, ws, v, w, hs, hs2, h1, h3⟩, fun u H3 hy => ?_⟩
    obtain ⟨t, v', w', rfl, nt, rfl, hv, hw⟩ := hy
    have e2 := (hv us hs).symm.trans h1
    cases e2
    have e3 := (hw ws hs2).symm.trans h3
    cases e3
    exact yieldT s2 nt ⟨_, _, rfl, A.m s1 h2, _, rfl, B.m s1 h4⟩
/-! ### targets -/
/-- is: the names that the target sets -/
structure SG (g : TG) (is : List Nat) (E : En ρ) (R : Rp α) (E' : En ρ') (u : α → ρ → ρ') : Prop where
  run : ∀ {σ : L2.St} {F H : Hp} {L : List (Addr × HO)} {γ : ρ} {v : V} {x : α} {Q : L2.St → Hp → Prop}, Same F H → E.r σ F L γ → R.r F v x →
  (∀ σ' L', Sb L' L → E'.r σ' F L' (u x γ) → (∀ ws : List Nat, (∀ i ∈ is, i ∈ ws) → wipe σ' ws = wipe σ ws) → Q σ' H) → g v σ H Q
instance {g : TG} {is : List Nat} {E : En ρ} {R : Rp α} {E' : En ρ'} {u : α → ρ → ρ'} : CoeFun (SG g is E R E' u) (fun _ => ∀ {σ : L2.St} {F H : Hp} {L : List (Addr × HO)} {γ : ρ} {v : V} {x : α} {Q : L2.St → Hp → Prop}, Same F H → E.r σ F L γ → R.r F v x →
  (∀ σ' L', Sb L' L → E'.r σ' F L' (u x γ) → (∀ ws : List Nat, (∀ i ∈ is, i ∈ ws) → wipe σ' ws = wipe σ ws) → Q σ' H) → g v σ H Q) := ⟨fun h => h.run⟩
theorem wipe_comm (σ : L2.St) (i : Nat) (o : Option V) : ∀ ws : List Nat, i ∈ ws → wipe (σ.set i o) ws = wipe σ ws
  | [], h => nomatch h
  | w :: ws, h => by
    show (wipe (σ.set i o) ws).set w none = (wipe σ ws).set w none
    by_cases hw : i ∈ ws
    · rw [wipe_comm σ i o ws hw]
    · have e : i = w := by
        rcases List.mem_cons.mp h with e | e
        · exact e
        · exact absurd e hw
      subst e
      have : ∀ ws : List Nat, i ∉ ws → wipe (σ.set i o) ws = (wipe σ ws).set i o := by
        intro ws
        induction ws with
        | nil => intro _; rfl
        | cons v vs ih =>
          intro hn
          show (wipe (σ.set i o) vs).set v none = ((wipe σ vs).set v none).set i o
          rw [ih (fun z => hn (List.mem_cons_of_mem _ z)), List.set_comm]
          exact fun z => hn (by rw [z]; exact List.mem_cons_self)
      rw [this ws hw, List.set_set]
theorem sg_name {i : Nat} {u : α → ρ → ρ'} (h : Pt E i (sF A) E' u) : SG (gName i) [i] E A E' u := ⟨fun s0 he r k => by
  obtain ⟨L', h1, h2⟩ := h he ⟨rfl, r⟩
  exact k _ L' h2 h1 fun ws hw => wipe_comm _ _ _ ws (hw i List.mem_cons_self)⟩
/-- a name that is not read -/
structure Un (E : En ρ) (i : Nat) : Prop where
  run : ∀ {σ : L2.St} {F : Hp} {L : List (Addr × HO)} {γ : ρ} {o : Option V}, E.r σ F L γ → E.r (σ.set i o) F L γ
instance {E : En ρ} {i : Nat} : CoeFun (Un E i) (fun _ => ∀ {σ : L2.St} {F : Hp} {L : List (Addr × HO)} {γ : ρ} {o : Option V}, E.r σ F L γ → E.r (σ.set i o) F L γ) := ⟨fun h => h.run⟩
theorem n0 : Un (eU E) 0 := ⟨fun ⟨o, σ', e, t⟩ => by
  subst e
  exact ⟨_, σ', rfl, t⟩⟩
theorem nU {i : Nat} (h : Un E i) : Un (eU E) (i + 1) := ⟨fun ⟨o, σ', e, t⟩ => by
  subst e
  exact ⟨o, _, rfl, h t⟩⟩
theorem nS {s : Sl α} {i : Nat} (h : Un E i) : Un (eC s E) (i + 1) := ⟨fun ⟨v, σ', L1, L2, e1, e2, q, t⟩ => by
  subst e1
  exact ⟨v, _, L1, L2, rfl, e2, q, h t⟩⟩
theorem sg_skip {i : Nat} (h : Un E i) : SG (gName i) [i] E A E (fun _ γ => γ) := ⟨fun s0 he r k => k _ _ (Sb.refl _) (h he) fun ws hw => wipe_comm _ _ _ ws (hw i List.mem_cons_self)⟩
/-- the parts of a tuple, each to its name -/
structure SGs (g : TGs) (is : List Nat) (E : En ρ) (T : Tp α) (E' : En ρ') (u : α → ρ → ρ') : Prop where
  run : ∀ {σ : L2.St} {F H : Hp} {L : List (Addr × HO)} {γ : ρ} {vs : List V} {x : α} {Q : L2.St → Hp → Prop}, Same F H → E.r σ F L γ → T.r F vs x →
  (∀ σ' L', Sb L' L → E'.r σ' F L' (u x γ) → (∀ ws : List Nat, (∀ i ∈ is, i ∈ ws) → wipe σ' ws = wipe σ ws) → Q σ' H) → g vs σ H Q
instance {g : TGs} {is : List Nat} {E : En ρ} {T : Tp α} {E' : En ρ'} {u : α → ρ → ρ'} : CoeFun (SGs g is E T E' u) (fun _ => ∀ {σ : L2.St} {F H : Hp} {L : List (Addr × HO)} {γ : ρ} {vs : List V} {x : α} {Q : L2.St → Hp → Prop}, Same F H → E.r σ F L γ → T.r F vs x →
  (∀ σ' L', Sb L' L → E'.r σ' F L' (u x γ) → (∀ ws : List Nat, (∀ i ∈ is, i ∈ ws) → wipe σ' ws = wipe σ ws) → Q σ' H) → g vs σ H Q) := ⟨fun h => h.run⟩
theorem sgs_1 {g : TG} {is : List Nat} {u : α → ρ → ρ'} (h : SG g is E A E' u) : SGs (gCons g gNil) is E (y1 A) E' u := ⟨fun s0 he ⟨v, e, r⟩ k => by
  subst e
  exact ⟨v, [], rfl, h s0 he r fun σ' L' hb he' hw => ⟨rfl, k σ' L' hb he' hw⟩⟩⟩
theorem sgs_C {E'' : En ρ''} {g : TG} {gs : TGs} {is js : List Nat} {T : Tp β} {u : α → ρ → ρ'} {u' : β → ρ' → ρ''} (h : SG g is E A E' u) (h' : SGs gs js E' T E'' u') : SGs (gCons g gs) (is ++ js) E (yC A T) E'' (fun x γ => u' x.2 (u x.1 γ)) := ⟨fun s0 he ⟨v, r, e, r1, r2⟩ k => by
  subst e
  refine ⟨v, r, rfl, h s0 he r1 fun σ' L' hb he' hw => h' s0 he' r2 fun σ2 L2 hb2 he2 hw2 => k σ2 L2 (hb2.trans hb) he2 fun ws hws => ?_⟩
  rw [hw2 ws (fun i hi => hws i (List.mem_append_right _ hi)), hw ws (fun i hi => hws i (List.mem_append_left _ hi))]⟩
theorem sg_tup {gs : TGs} {is : List Nat} {T : Tp α} {n j : Nat} {R : Rp β} {g : α → β} {u : α → ρ → ρ'} (h : SGs gs is E T E' u) (hn : Tat T n j R g) : SG (gTup K n gs) is E (jT T) E' u := ⟨fun s0 he ⟨a, vs, e, r, t⟩ k =>
  ⟨a, vs, e, .inl (.inl (s0 _ _ r)), (hn t).1, h s0 he t k⟩⟩
/-! ### comprehensions -/
def lcM {α β : Type} (f : α → Option β) : List α → Option (List β)
  | [] => some []
  | x :: xs => ob (f x) fun y => ob (lcM f xs) fun r => some (y :: r)
def lcF {α β : Type} (p : α → Option Bool) (f : α → Option β) : List α → Option (List β)
  | [] => some []
  | x :: xs => ob (p x) fun b => if b = true then ob (f x) fun y => ob (lcF p f xs) fun r => some (y :: r) else lcF p f xs
theorem lcM_lcF {α β : Type} (f : α → Option β) : ∀ xs : List α, lcF (fun _ => some true) f xs = lcM f xs
  | [] => rfl
  | x :: xs => by
    show (ob (f x) fun y => ob (lcF (fun _ => some true) f xs) fun r => some (y :: r)) = _
    rw [lcM_lcF f xs]
    rfl
structure Wp (E : En ρ) (vs : List Nat) : Prop where
  run : ∀ {σ : L2.St} {F : Hp} {L : List (Addr × HO)} {γ : ρ}, E.r σ F L γ → E.r (wipe σ vs) F L γ
instance {E : En ρ} {vs : List Nat} : CoeFun (Wp E vs) (fun _ => ∀ {σ : L2.St} {F : Hp} {L : List (Addr × HO)} {γ : ρ}, E.r σ F L γ → E.r (wipe σ vs) F L γ) := ⟨fun h => h.run⟩
theorem wp_nil : Wp E [] := ⟨fun h => h⟩
theorem wp_cons {i : Nat} {vs : List Nat} (h : Un E i) (t : Wp E vs) : Wp E (i :: vs) := ⟨fun q => h (t q)⟩
theorem lc_core {wi : TI} {g : TG} {tt : TT} {is vs : List Nat} {fi : ρ → Option (List α)} {ft : ρ' → Option Bool} {fe : ρ' → Option β} {u : α → ρ → ρ'} (hi : SI wi E A fi) (hw : Wp E vs) (hg : SG g is E A E' u) (hv : ∀ i ∈ is, i ∈ vs) (ht : ST tt E' ft) (he : SE te E' (sF B) fe) :
    SE (tLc wi g tt te vs) E (sO B) (fun γ => ob (fi γ) fun xs => ob (lcF (fun x => ft (u x γ)) (fun x => fe (u x γ)) xs) fun r => pck (r.length ≤ sz) r) := ⟨fun {σ _ _ L γ res Q} s0 hL hE e k => by
  obtain ⟨xs, e1, e⟩ := ob_some e
  obtain ⟨rs, e2, e⟩ := ob_some e
  obtain ⟨p, e3⟩ := pck_some e
  subst e3
  refine hi.run s0 hL hE e1 fun J F1 H1 s1 it => ?_
  have hE1 := E.m s1.f0 hE
  have hL1 := hL.mono s1.hh
  intro D hD
  refine ⟨fun i m H' => m = xs.length - i ∧ i ≤ xs.length ∧ ∃ F' acc ys zs, Step F1 H1 F' H' [(D, .lst acc)] ∧ Paired (B.r F') acc ys ∧ lcF (fun x => ft (u x γ)) (fun x => fe (u x γ)) (xs.drop i) = some zs ∧ rs = ys ++ zs,
    ⟨xs.length, by omega, Nat.zero_le _, F1, [], [], rs, (Step.nil s1.fh).alloc hD _, .nil, e2, rfl⟩, ?_⟩
  rintro i m H' ⟨rfl, hi, F', acc, ys, zs, s2, pa, e4, e5⟩
  by_cases hlt : i < xs.length
  · obtain ⟨x, hx⟩ : ∃ x, xs[i]? = some x := ⟨_, List.getElem?_eq_getElem hlt⟩
    obtain ⟨go, yl⟩ := it.one s2.f0 s2.fh hx
    have ed : xs.drop i = x :: xs.drop (i + 1) := by
      rw [List.drop_eq_getElem_cons hlt]
      congr 1
      rw [List.getElem?_eq_getElem hlt] at hx
      exact Option.some.inj hx
    rw [ed] at e4
    obtain ⟨b, e6, e7⟩ := ob_some e4
    have hacc : acc.length < sz ∨ b = false := by
      cases b with
      | false => exact .inr rfl
      | true =>
        rw [if_pos rfl] at e7
        obtain ⟨y, e8, e9⟩ := ob_some e7
        obtain ⟨r, e10, e11⟩ := ob_some e9
        cases e11
        rw [Paired.len pa]
        rw [e5, List.length_append, List.length_cons] at p
        exact .inl (by omega)
    refine .inr ⟨go, fun H'' => ∃ F' acc ys zs, Step F1 H1 F' H'' [(D, .lst acc)] ∧ Paired (B.r F') acc ys ∧ lcF (fun x => ft (u x γ)) (fun x => fe (u x γ)) (xs.drop (i + 1)) = some zs ∧ rs = ys ++ zs, fun H'' h => ⟨xs.length - (i + 1), by omega, rfl, hlt, h⟩, fun v H3 hy => ?_⟩
    obtain ⟨F3, s3, r3⟩ := yl v H3 hy
    have s13 := Own.on s2 s3
    rw [List.nil_append] at s13
    refine hg s3.fh (hw (E.m s13.f0 hE1)) r3 fun σ4 L4 hb4 hE4 hw4 => ⟨?_, ?_⟩
    · rw [hw4 vs hv]
      have : ∀ (σ : L2.St) (vs : List Nat), wipe (wipe σ vs) vs = wipe σ vs := by
        intro σ vs
        have gen : ∀ (ws : List Nat), (∀ i ∈ ws, i ∈ vs) → wipe (wipe σ ws) vs = wipe σ vs := by
          intro ws
          induction ws with
          | nil => intro _; rfl
          | cons a as ih => intro h; show wipe ((wipe σ as).set a none) vs = _; rw [wipe_comm _ _ _ vs (h a List.mem_cons_self), ih fun i hi => h i (List.mem_cons_of_mem _ hi)]
        exact gen vs fun _ h => h
      exact this _ _
    have hL4 : Held H3 L4 := fun q hq => (hL1.mono s13.hh) q (hb4.mem hq)
    refine ht s3.fh hL4 hE4 e6 fun F5 H5 s5 => ?_
    have s15 := Own.on s13 s5
    rw [List.nil_append] at s15
    cases b with
    | false =>
      rw [if_neg Bool.false_ne_true] at e7 ⊢
      exact ⟨F5, acc, ys, zs, s15, Paired.mono (fun _ _ q => B.m (s3.f0.trans s5.f0) q) pa, e7, e5⟩
    | true =>
      rw [if_pos rfl] at e7 ⊢
      obtain ⟨y, e8, e9⟩ := ob_some e7
      obtain ⟨r, e10, e11⟩ := ob_some e9
      cases e11
      refine he s5.fh (hL4.mono s5.hh) (E'.m s5.f0 hE4) e8 fun w F6 H6 L6 s6 ⟨z6, r6⟩ => ?_
      subst z6
      have s16 := Own.on s15 s6
      rw [List.nil_append] at s16
      refine ⟨acc, s16.at_ 0, sz_lt (hacc.resolve_right (by decide)), F6, _, ys ++ [y], r, s16.set 0 rfl _, Paired.app (Paired.mono (fun _ _ q => B.m ((s3.f0.trans s5.f0).trans s6.f0) q) pa) (.cons r6 .nil), e10, ?_⟩
      rw [e5, List.append_assoc]
      rfl
  · have hi2 : i = xs.length := by omega
    subst hi2
    rw [List.drop_length] at e4
    cases e4
    rw [List.append_nil] at e5
    subst e5
    exact .inl ⟨it.stop s2.f0 s2.fh, k _ _ _ _ (by have := Own.on s1 s2; rwa [List.append_nil] at this) ⟨D, acc, rfl, rfl, pa⟩⟩⟩
theorem se_lcF {wi : TI} {g : TG} {tt : TT} {is vs : List Nat} {fi : ρ → Option (List α)} {ft : ρ' → Option Bool} {fe : ρ' → Option β} {u : α → ρ → ρ'} (hi : SI wi E A fi) (hw : Wp E vs) (hg : SG g is E A E' u) (ht : ST tt E' ft) (he : SE te E' (sF B) fe) (hv : ∀ i ∈ is, i ∈ vs := by decide) :
    SE (tLc wi g tt te vs) E (sO B) (fun γ => ob (fi γ) fun xs => ob (lcF (fun x => ft (u x γ)) (fun x => fe (u x γ)) xs) fun r => pck (r.length ≤ sz) r) := lc_core hi hw hg hv ht he
theorem se_lc {wi : TI} {g : TG} {is vs : List Nat} {fi : ρ → Option (List α)} {fe : ρ' → Option β} {u : α → ρ → ρ'} (hi : SI wi E A fi) (hw : Wp E vs) (hg : SG g is E A E' u) (he : SE te E' (sF B) fe) (hv : ∀ i ∈ is, i ∈ vs := by decide) :
    SE (tLc wi g tYes te vs) E (sO B) (fun γ => ob (fi γ) fun xs => ob (lcM (fun x => fe (u x γ)) xs) fun r => pck (r.length ≤ sz) r) := by
  have h : (fun γ => ob (fi γ) fun xs => ob (lcM (fun x => fe (u x γ)) xs) fun r => pck (r.length ≤ sz) r) = (fun γ => ob (fi γ) fun xs => ob (lcF (fun x => some true) (fun x => fe (u x γ)) xs) fun r => pck (r.length ≤ sz) r) := by
    funext γ
    simp only [lcM_lcF]
  rw [h]
  exact lc_core hi hw hg hv (ft := fun _ => some true) st_yes he
end
end Mi

namespace Mi
open PySem PySem.Spec PyProof.Rows L2 Fw
/-! ### statements -/
inductive Res (ρ κ β : Type) where
  | nxt (γ : ρ) | ret (b : β) | cnt (γ : κ) | brk (γ : κ)
/-- what a return wishes -/
structure RRt (β : Type) where
  fin : Hp → Hp → Hp → VK → β → Prop
  mo : ∀ {F0 H0 F F1 : Hp} {Q : VK} {b : β}, fin F0 H0 F Q b → Same F F1 → fin F0 H0 F1 Q b
def rS {β : Type} (s : Sl β) : RRt β := ⟨fun F0 H0 Fs Q b => ∀ v F H L, Same Fs F → Own F0 H0 F H L [] → s.r v F L b → Q v H, fun h sF v F H L s2 => h v F H L (sF.trans s2)⟩
section
variable {ρ ρ' ρ'' α β δ ε κ : Type} {E : En ρ} {E' : En ρ'} {E1 : En ρ''} {Ec : En κ} {ta tb tc te : TE} {tA : TA} {A : Rp α} {B : Rp β} {D : Rp δ} {s : RRt β} {sl : Sl β} {K : PySem.W.Frag} {t u : TS}
def Fin (E' : En ρ') (Ec : En κ) (s : RRt β) (F0 H0 Fs : Hp) (D : Ends) : Res ρ' κ β → Prop
  | .nxt γ => ∀ σ F H L, Same Fs F → Own F0 H0 F H L [] → E'.r σ F L γ → D.nx σ H
  | .ret b => s.fin F0 H0 Fs D.rt b
  | .cnt γ => ∀ σ F H L, Same Fs F → Own F0 H0 F H L [] → Ec.r σ F L γ → D.ct σ H
  | .brk γ => ∀ σ F H L, Same Fs F → Own F0 H0 F H L [] → Ec.r σ F L γ → D.bk σ H
theorem Fin.mo {F0 H0 F F1 : Hp} {D : Ends} {r : Res ρ' κ β} (h : Fin E' Ec s F0 H0 F D r) (sF : Same F F1) : Fin E' Ec s F0 H0 F1 D r := by
  cases r with
  | nxt γ => exact fun σ F2 H L s2 => h σ F2 H L (sF.trans s2)
  | ret b => exact s.mo (show s.fin F0 H0 F D.rt b from h) sF
  | cnt γ => exact fun σ F2 H L s2 => h σ F2 H L (sF.trans s2)
  | brk γ => exact fun σ F2 H L s2 => h σ F2 H L (sF.trans s2)
structure SS (t : TS) (E : En ρ) (E' : En ρ') (Ec : En κ) (s : RRt β) (m : ρ → Option (Res ρ' κ β)) : Prop where
  run : ∀ {σ : L2.St} {F0 H0 F H : Hp} {L : List (Addr × HO)} {γ : ρ} {r : Res ρ' κ β} {D : Ends}, Own F0 H0 F H L [] → E.r σ F L γ → m γ = some r → Fin E' Ec s F0 H0 F D r → t D σ H
theorem ss_conv {m m' : ρ → Option (Res ρ' κ β)} (h : SS t E E' Ec s m) (e : m = m') : SS t E E' Ec s m' := e ▸ h
/-- what follows -/
def rb (x : Option (Res ρ κ β)) (f : ρ → Option (Res ρ' κ β)) : Option (Res ρ' κ β) := ob x fun r => match r with
  | .nxt γ => f γ
  | .ret b => some (.ret b)
  | .cnt γ => some (.cnt γ)
  | .brk γ => some (.brk γ)
theorem ss_seq {m1 : ρ → Option (Res ρ'' κ β)} {m2 : ρ'' → Option (Res ρ' κ β)} (ht : SS t E E1 Ec s m1) (hu : SS u E1 E' Ec s m2) : SS (tSeq t u) E E' Ec s (fun γ => rb (m1 γ) m2) := ⟨fun {_ _ _ _ _ _ _ r D} O he e fin => by
  obtain ⟨r1, e1, e⟩ := ob_some e
  show t { D with nx := u D } _ _
  refine ht.run O he e1 ?_
  cases r1 with
  | nxt γ1 => exact fun σ F H L sF O' he' => hu.run O' he' e (fin.mo sF)
  | ret b => cases e; exact fin
  | cnt γ1 => cases e; exact fin
  | brk γ1 => cases e; exact fin⟩
theorem ss_nil : SS tNext E E Ec s (fun γ => some (.nxt γ)) := ⟨fun O he e fin => by
  cases e
  exact fin _ _ _ _ (Same.refl _) O he⟩
theorem ss_co {c : ρ → ρ'} (h : Co E E' c) : SS tNext E E' Ec s (fun γ => some (.nxt (c γ))) := ⟨fun O he e fin => by
  cases e
  obtain ⟨F', L', O', sF, he'⟩ := h (by rw [List.append_nil]; exact O) he
  rw [List.append_nil] at O'
  exact fin _ _ _ _ sF O' he'⟩
theorem ss_pre {c : ρ → ρ''} {m : ρ'' → Option (Res ρ' κ β)} (h : Co E E1 c) (hu : SS u E1 E' Ec s m) : SS u E E' Ec s (fun γ => m (c γ)) := ⟨fun O he e fin => by
  obtain ⟨F', L', O', sF, he'⟩ := h (by rw [List.append_nil]; exact O) he
  rw [List.append_nil] at O'
  exact hu.run O' he' e (fin.mo sF)⟩
variable {m : ρ'' → Option (Res ρ' κ β)}
theorem ss_asg {i : Nat} {s1 : Sl α} {fe : ρ → Option α} {p : α → ρ → ρ''} (he : SE te E s1 fe) (hp : Pt E i s1 E1 p) (hu : SS u E1 E' Ec s m) : SS (tSeq (tAsg te (gName i)) u) E E' Ec s (fun γ => ob (fe γ) fun x => m (p x γ)) := ⟨fun O hE e fin => by
  obtain ⟨x, e1, e⟩ := ob_some e
  refine he O.fh (Held.of O) hE e1 fun v F1 H1 L1 s1 r1 => ?_
  obtain ⟨L', h1, h2⟩ := hp (E.m s1.f0 hE) r1
  exact hu.run (OwnSb (Own.on O s1) h2) h1 e (fin.mo s1.f0)⟩
theorem ss_asgG {g : TG} {is : List Nat} {fe : ρ → Option α} {p : α → ρ → ρ''} (he : SE te E (sF A) fe) (hp : SG g is E A E1 p) (hu : SS u E1 E' Ec s m) : SS (tSeq (tAsg te g) u) E E' Ec s (fun γ => ob (fe γ) fun x => m (p x γ)) := ⟨fun O hE e fin => by
  obtain ⟨x, e1, e⟩ := ob_some e
  refine he O.fh (Held.of O) hE e1 fun v F1 H1 L1 s1 ⟨z1, r1⟩ => ?_
  subst z1
  have O1 := Own.on O s1
  rw [List.nil_append] at O1
  exact hp O1.fh (E.m s1.f0 hE) r1 fun σ' L' hb he' _ => hu.run (OwnSb O1 hb) he' e (fin.mo s1.f0)⟩
theorem ss_aug {i : Nat} {f : Int → Int → Int} {g : ρ → Int} {fe : ρ → Option Int} {p : Int → ρ → ρ''} (hg : Gt E i (sF jI) g) (he : SE te E (sF jI) fe) (hp : Pt E i (sF jI) E1 p) (hu : SS u E1 E' Ec s m) :
    SS (tSeq (tAug i te (ipI f)) u) E E' Ec s (fun γ => ob (fe γ) fun y => m (p (f (g γ) y) γ)) := ⟨fun O hE e fin => by
  obtain ⟨x, e1, e⟩ := ob_some e
  obtain ⟨v, L1, h1, _, _, h3⟩ := hg hE
  refine ⟨v, h1, he O.fh (Held.of O) hE e1 fun w F1 H1 L1 s1 ⟨z1, r1⟩ => ?_⟩
  subst z1
  have O1 := Own.on O s1
  rw [List.nil_append] at O1
  refine ⟨_, _, h3, r1, ?_⟩
  obtain ⟨L', h1, h2⟩ := hp.run (v := .int (f _ x)) (L1 := []) (x := f _ x) (E.m s1.f0 hE) ⟨rfl, rfl⟩
  exact hu.run (OwnSb O1 h2) h1 e (fin.mo s1.f0)⟩
theorem ss_par {i j : Nat} {C : Rp δ} {E2 : En ε} {fa : ρ → Option α} {fb : ρ → Option δ} {p : α → ρ → ρ''} {p' : δ → ρ'' → ε} {m : ε → Option (Res ρ' κ β)} (ha : SE ta E (sF A) fa) (hb : SE tb E (sF C) fb) (hp : Pt E i (sF A) E1 p) (hp' : Pt E1 j (sF C) E2 p') (hu : SS u E2 E' Ec s m) :
    SS (tSeq (tPar i j (tCons ta (tCons tb tNil))) u) E E' Ec s (fun γ => ob (fa γ) fun x => ob (fb γ) fun y => m (p' y (p x γ))) := ⟨fun O hE e fin => by
  obtain ⟨x, e1, e⟩ := ob_some e
  obtain ⟨y, e2, e⟩ := ob_some e
  refine ha O.fh (Held.of O) hE e1 fun v F1 H1 L1 s1 ⟨z1, r1⟩ => ?_
  subst z1
  have O1 := Own.on O s1
  rw [List.nil_append] at O1
  refine hb O1.fh (Held.of O1) (E.m s1.f0 hE) e2 fun w F2 H2 L2 s2 ⟨z2, r2⟩ => ?_
  subst z2
  have O2 := Own.on O1 s2
  rw [List.nil_append] at O2
  refine ⟨v, w, rfl, ?_⟩
  obtain ⟨L', h1, h2⟩ := hp.run (L1 := []) (E.m (s1.f0.trans s2.f0) hE) ⟨rfl, A.m s2.f0 r1⟩
  obtain ⟨L'', h3, h4⟩ := hp'.run (L1 := []) h1 ⟨rfl, r2⟩
  exact hu.run (OwnSb (OwnSb O2 h2) h4) h3 e (fin.mo (s1.f0.trans s2.f0))⟩
theorem ss_expr {s1 : Sl α} {fe : ρ → Option α} {m : ρ → Option (Res ρ' κ β)} (he : SE te E s1 fe) (hu : SS u E E' Ec s m) : SS (tSeq (tDrop te) u) E E' Ec s (fun γ => ob (fe γ) fun _ => m γ) := ⟨fun O hE e fin => by
  obtain ⟨x, e1, e⟩ := ob_some e
  refine he O.fh (Held.of O) hE e1 fun v F1 H1 L1 s1 r1 => ?_
  exact hu.run (OwnSb (Own.on O s1) (Sb.dropL _ _)) (E.m s1.f0 hE) e (fin.mo s1.f0)⟩
/-! own lists -/
theorem tyL {P : Prop} {p : Addr} {vs : List V} {H : Hp} (e : H p = some (.lst vs)) (h : P) : tyV K "list" (.ref p) H ∧ P := w_tyL h (.inl (.inl e))
theorem ss_app {i : Nat} {R : Rp α} {g : ρ → List α} {up : List α → ρ → ρ} {fe : ρ → Option α} {m : ρ → Option (Res ρ' κ β)} (hu' : Up E i R g up) (he : SE te E (sF R) fe) (hu : SS u E E' Ec s m) :
    SS (tSeq (tDrop (tBM K "list" rAppend (tVar i) (tCons te tNil))) u) E E' Ec s (fun γ => ob (fe γ) fun y => ob (pck ((g γ).length < sz) (g γ ++ [y])) fun ys => m (up ys γ)) := ⟨fun O hE e fin => by
  obtain ⟨x, e1, e⟩ := ob_some e
  obtain ⟨ys, e2, e⟩ := ob_some e
  obtain ⟨pz, rfl⟩ := pck_some e2
  obtain ⟨p, vs, j, h1, h2, h3, h4⟩ := hu' hE
  refine ⟨.ref p, h1, tyL (O.at_ j h2) ?_⟩
  refine he O.fh (Held.of O) hE e1 fun v F1 H1 L1 s1 ⟨z1, r1⟩ => ?_
  subst z1
  have O1 := Own.on O s1
  rw [List.nil_append] at O1
  exact w_app (Q := fun _ H' => u _ _ H') O1 h2 (fun H' O2 => hu.run O2 (h4 F1 _ _ s1.f0 (Paired.app (Paired.mono (fun _ _ q => R.m s1.f0 q) h3) (.cons r1 .nil))) e (fin.mo s1.f0)) (sz_lt (by rw [Paired.len h3]; exact pz))⟩
theorem ss_ext {i : Nat} {R : Rp α} {g : ρ → List α} {up : List α → ρ → ρ} {fe : ρ → Option (List α)} {m : ρ → Option (Res ρ' κ β)} (hu' : Up E i R g up) (he : SE te E (sF (jL R)) fe) (hu : SS u E E' Ec s m) :
    SS (tSeq (tDrop (tBM K "list" rExtend (tVar i) (tCons te tNil))) u) E E' Ec s (fun γ => ob (fe γ) fun y => ob (pck ((g γ).length + y.length ≤ sz) (g γ ++ y)) fun ys => m (up ys γ)) := ⟨fun O hE e fin => by
  obtain ⟨x, e1, e⟩ := ob_some e
  obtain ⟨ys, e2, e⟩ := ob_some e
  obtain ⟨pz, rfl⟩ := pck_some e2
  obtain ⟨p, vs, j, h1, h2, h3, h4⟩ := hu' hE
  refine ⟨.ref p, h1, tyL (O.at_ j h2) ?_⟩
  refine he O.fh (Held.of O) hE e1 fun v F1 H1 L1 s1 ⟨z1, a, us, z2, r1, q1⟩ => ?_
  subst z1 z2
  have O1 := Own.on O s1
  rw [List.nil_append] at O1
  exact w_ext (Q := fun _ H' => u _ _ H') O1 h2 (O1.fh _ _ r1) (fun H' O2 => hu.run O2 (h4 F1 _ _ s1.f0 (Paired.app (Paired.mono (fun _ _ q => R.m s1.f0 q) h3) q1)) e (fin.mo s1.f0)) (sz_le (by rw [Paired.len h3, Paired.len q1]; exact pz))⟩
theorem ss_rev {i : Nat} {R : Rp α} {g : ρ → List α} {up : List α → ρ → ρ} {m : ρ → Option (Res ρ' κ β)} (hu' : Up E i R g up) (hu : SS u E E' Ec s m) :
    SS (tSeq (tDrop (tBM0 K "list" rReverse (tVar i))) u) E E' Ec s (fun γ => m (up (g γ).reverse γ)) := ⟨fun O hE e fin => by
  obtain ⟨p, vs, j, h1, h2, h3, h4⟩ := hu' hE
  refine ⟨.ref p, h1, tyL (O.at_ j h2) ⟨p, vs, rfl, rfl, O.at_ j h2, ?_⟩⟩
  exact hu.run (O.set j h2 _) (h4 _ _ _ (Same.refl _) (Paired.rev h3)) e fin⟩
theorem ss_pop {i : Nat} {R : Rp α} {g : ρ → List α} {up : List α → ρ → ρ} {m : ρ → Option (Res ρ' κ β)} (hu' : Up E i R g up) (hu : SS u E E' Ec s m) :
    SS (tSeq (tDrop (tBM0 K "list" rPop (tVar i))) u) E E' Ec s (fun γ => ob (pck (0 < (g γ).length) (g γ).dropLast) fun ys => m (up ys γ)) := ⟨fun O hE e fin => by
  obtain ⟨ys, e2, e⟩ := ob_some e
  obtain ⟨pz, rfl⟩ := pck_some e2
  obtain ⟨p, vs, j, h1, h2, h3, h4⟩ := hu' hE
  have hl := Paired.len h3
  refine ⟨.ref p, h1, tyL (O.at_ j h2) ⟨p, vs, _, rfl, rfl, O.at_ j h2, List.getElem?_eq_getElem (by omega), ?_⟩⟩
  refine hu.run (O.set j h2 _) (h4 _ _ _ (Same.refl _) ?_) e fin
  rw [List.dropLast_eq_take, List.dropLast_eq_take, hl]
  exact Paired.tk _ h3⟩
/-- xs with the item at i set -/
def pset {τ : Type} (xs : List τ) (i : Int) (x : τ) : Option (List τ) := (ixN xs.length i).map fun j => xs.set j x
theorem ss_setI {i : Nat} {R : Rp α} {g : ρ → List α} {up : List α → ρ → ρ} {fe : ρ → Option α} {fi : ρ → Option Int} {m : ρ → Option (Res ρ' κ β)} (hu' : Up E i R g up) (he : SE te E (sF R) fe) (hi : SE ta E (sF jI) fi) (hu : SS u E E' Ec s m) :
    SS (tSeq (tAsg te (gSub (tVar i) ta rSetL)) u) E E' Ec s (fun γ => ob (fe γ) fun y => ob (fi γ) fun j => ob (pset (g γ) j y) fun ys => m (up ys γ)) := ⟨fun O hE e fin => by
  obtain ⟨x, e1, e⟩ := ob_some e
  obtain ⟨k, e2, e⟩ := ob_some e
  obtain ⟨ys, e3, e⟩ := ob_some e
  refine he O.fh (Held.of O) hE e1 fun v F1 H1 L1 s1 ⟨z1, r1⟩ => ?_
  subst z1
  have O1 := Own.on O s1
  rw [List.nil_append] at O1
  obtain ⟨p, vs, j, h1, h2, h3, h4⟩ := hu' (E.m s1.f0 hE)
  refine ⟨.ref p, h1, ?_⟩
  refine hi O1.fh (Held.of O1) (E.m s1.f0 hE) e2 fun w F2 H2 L2 s2 ⟨z2, r2⟩ => ?_
  subst z2
  have O2 := Own.on O1 s2
  rw [List.nil_append] at O2
  unfold pset at e3
  rw [← Paired.len h3] at e3
  cases hj : ixN vs.length k with
  | none => rw [hj] at e3; cases e3
  | some n =>
    rw [hj] at e3
    cases e3
    refine ⟨p, vs, k, n, rfl, r2, O2.at_ j h2, hj, ?_⟩
    exact hu.run (O2.set j h2 _) (h4 F2 _ _ s2.f0 (Paired.upd (R.m s2.f0 r1) n (Paired.mono (fun _ _ q => R.m s2.f0 q) h3))) e (fin.mo (s1.f0.trans s2.f0))⟩
/-- xs[i] op= e, 0 ≤ i -/
def pget {τ : Type} (xs : List τ) (i : Int) : Option τ := if 0 ≤ i then xs[i.toNat]? else none
theorem ss_augI {i : Nat} {f : Int → Int → Int} {g : ρ → List Int} {up : List Int → ρ → ρ} {fe fi : ρ → Option Int} {m : ρ → Option (Res ρ' κ β)} (hu' : Up E i jI g up) (hi : SE ta E (sF jI) fi) (he : SE te E (sF jI) fe) (hu : SS u E E' Ec s m) :
    SS (tSeq (tAugS (tVar i) ta te (rGetL K) (ipI f) rSetL) u) E E' Ec s (fun γ => ob (fi γ) fun j => ob (pget (g γ) j) fun a => ob (fe γ) fun y => m (up ((g γ).set j.toNat (f a y)) γ)) := ⟨fun O hE e fin => by
  obtain ⟨k, e1, e⟩ := ob_some e
  obtain ⟨a, e2, e⟩ := ob_some e
  obtain ⟨y, e3, e⟩ := ob_some e
  obtain ⟨p, vs, j, h1, h2, h3, h4⟩ := hu' hE
  refine ⟨.ref p, h1, ?_⟩
  refine hi O.fh (Held.of O) hE e1 fun v F1 H1 L1 s1 ⟨z1, r1⟩ => ?_
  subst z1
  have O1 := Own.on O s1
  rw [List.nil_append] at O1
  unfold pget at e2
  split at e2
  · next h0 =>
    obtain ⟨w, w1, w2⟩ := Paired.at h3 e2
    refine ⟨p, vs, k, w, rfl, r1, .inl (.inl (O1.at_ j h2)), h0, w1, ?_⟩
    refine he O1.fh (Held.of O1) (E.m s1.f0 hE) e3 fun z F2 H2 L2 s2 ⟨z2, r2⟩ => ?_
    subst z2
    have O2 := Own.on O1 s2
    rw [List.nil_append] at O2
    refine ⟨a, y, w2, r2, ?_⟩
    have hlt := (List.getElem?_eq_some_iff.mp w1).1
    refine ⟨p, vs, k, k.toNat, rfl, r1, O2.at_ j h2, ixN_pos ⟨h0, by omega⟩, ?_⟩
    exact hu.run (O2.set j h2 _) (h4 F2 _ _ (s1.f0.trans s2.f0) (Paired.upd (A := jI.r F2) rfl _ (Paired.mono (A := jI.r _) (fun _ _ q => q) h3))) e (fin.mo (s1.f0.trans s2.f0))
  · cases e2⟩
/-! ways -/
theorem ss_if {t1 t2 : TS} {c : TT} {fc : ρ → Option Bool} {ma mb : ρ → Option (Res ρ' κ β)} (hc : ST c E fc) (ha : SS t1 E E' Ec s ma) (hb : SS t2 E E' Ec s mb) : SS (tIfS c t1 t2) E E' Ec s (fun γ => ob (fc γ) fun b => if b = true then ma γ else mb γ) := ⟨fun O hE e fin => by
  obtain ⟨b, e1, e⟩ := ob_some e
  refine hc O.fh (Held.of O) hE e1 fun F1 H1 s1 => ?_
  have O1 := Own.on O s1
  rw [List.nil_append] at O1
  cases b with
  | true =>
    show if true = true then _ else _
    rw [if_pos rfl] at e ⊢
    exact ha.run O1 (E.m s1.f0 hE) e (fin.mo s1.f0)
  | false =>
    show if false = true then _ else _
    rw [if_neg Bool.false_ne_true] at e ⊢
    exact hb.run O1 (E.m s1.f0 hE) e (fin.mo s1.f0)⟩
theorem ss_ret {fe : ρ → Option β} (he : SE te E sl fe) : SS (tRet te) E E' Ec (rS sl) (fun γ => ob (fe γ) fun x => some (.ret x)) := ⟨fun O hE e fin => by
  obtain ⟨x, e1, e⟩ := ob_some e
  cases e
  refine he O.fh (Held.of O) hE e1 fun v F1 H1 L1 s1 r1 => ?_
  exact fin v F1 H1 L1 s1.f0 (OwnSb (Own.on O s1) (Sb.dropR _ _)) r1⟩
theorem ss_retO {i : Nat} {R : Rp α} {g : ρ → List α} (hg : Gt E i (sO R) g) : SS (tRet (tVar i)) E E' Ec (rS (sO R)) (fun γ => some (.ret (g γ))) := ⟨fun {_ _ _ F H L _ _ _} O hE e fin => by
  cases e
  obtain ⟨v, L1, h1, h2, p, vs, h3, h4, h5⟩ := hg hE
  subst h3 h4
  obtain ⟨a, b, hab⟩ := List.append_of_mem (h2 _ List.mem_cons_self)
  refine ⟨_, h1, fin _ F H [(p, .lst vs)] (Same.refl _) (OwnSb O ?_) ⟨p, vs, rfl, rfl, h5⟩⟩
  rw [hab]
  exact ⟨a ++ b, (List.perm_middle (l₁ := a) (l₂ := b)).symm⟩⟩
theorem ss_retN : SS tRetN E E' Ec (rS (sF jN)) (fun _ => some (.ret ())) := ⟨fun O _ e fin => by
  cases e
  exact fin _ _ _ [] (Same.refl _) (OwnSb O (Sb.nil _)) ⟨rfl, rfl⟩⟩
theorem ss_never : SS tNever E E' Ec s (fun _ => none) := ⟨fun _ _ e _ => nomatch e⟩
theorem ss_cont : SS tCont E E' E s (fun γ => some (.cnt γ)) := ⟨fun O hE e fin => by
  cases e
  exact fin _ _ _ _ (Same.refl _) O hE⟩
theorem ss_contC {c : ρ → κ} (h : Co E Ec c) : SS tCont E E' Ec s (fun γ => some (.cnt (c γ))) := ⟨fun O hE e fin => by
  cases e
  obtain ⟨F', L', O', sF, he'⟩ := h (by rw [List.append_nil]; exact O) hE
  rw [List.append_nil] at O'
  exact fin _ _ _ _ sF O' he'⟩
/-! loops -/
def forR {κ : Type} (step : α → ρ → Option (Res ρ ρ β)) : List α → ρ → Option (Res ρ κ β)
  | [], γ => some (.nxt γ)
  | x :: xs, γ => ob (step x γ) fun r => match r with
    | .nxt γ' => forR step xs γ'
    | .cnt γ' => forR step xs γ'
    | .brk γ' => some (.nxt γ')
    | .ret b => some (.ret b)
theorem ss_for {wi : TI} {g : TG} {is : List Nat} {tb : TS} {fi : ρ → Option (List α)} {p : α → ρ → ρ''} {mb : ρ'' → Option (Res ρ ρ β)} (hi : SI wi E A fi) (hg : SG g is E A E1 p) (hb : SS tb E1 E E s mb) :
    SS (tFor wi g tb) E E Ec s (fun γ => ob (fi γ) fun xs => forR (fun x γ => mb (p x γ)) xs γ) := ⟨fun {σ F0 H0 F H L γ r D} O hE e fin => by
  obtain ⟨xs, e1, e⟩ := ob_some e
  refine hi.run O.fh (Held.of O) hE e1 fun J F1 H1 s1 it => ?_
  have O1 := Own.on O s1
  rw [List.nil_append] at O1
  refine ⟨fun i m σ' H' => m = xs.length - i ∧ i ≤ xs.length ∧ ∃ F' L' γ', Same F1 F' ∧ Own F0 H0 F' H' L' [] ∧ E.r σ' F' L' γ' ∧ forR (fun x γ => mb (p x γ)) (xs.drop i) γ' = some r,
    ⟨xs.length, by omega, Nat.zero_le _, F1, L, γ, Same.refl _, O1, E.m s1.f0 hE, e⟩, ?_⟩
  rintro i m σ' H' ⟨rfl, hi, F', L', γ', sF', O', hE', e'⟩
  by_cases hlt : i < xs.length
  · obtain ⟨x, hx⟩ : ∃ x, xs[i]? = some x := ⟨_, List.getElem?_eq_getElem hlt⟩
    obtain ⟨go, yl⟩ := it.one sF' O'.fh hx
    have ed : xs.drop i = x :: xs.drop (i + 1) := by
      rw [List.drop_eq_getElem_cons hlt]
      congr 1
      rw [List.getElem?_eq_getElem hlt] at hx
      exact Option.some.inj hx
    rw [ed] at e'
    obtain ⟨r1, e2, e3⟩ := ob_some e'
    refine .inr ⟨go, fun σ2 H2 => ∃ F' L' γ', Same F1 F' ∧ Own F0 H0 F' H2 L' [] ∧ E.r σ2 F' L' γ' ∧ forR (fun x γ => mb (p x γ)) (xs.drop (i + 1)) γ' = some r, fun σ2 H2 h => ⟨xs.length - (i + 1), by omega, rfl, hlt, h⟩, fun v H3 hy => ?_⟩
    obtain ⟨F3, s3, r3⟩ := yl v H3 hy
    have O3 := Own.on O' s3
    rw [List.nil_append] at O3
    refine hg O3.fh (E.m s3.f0 hE') r3 fun σ4 L4 hb4 hE4 _ => ?_
    have O4 := OwnSb O3 hb4
    refine hb.run O4 hE4 e2 ?_
    have sF3 := sF'.trans s3.f0
    cases r1 with
    | nxt γ2 => exact fun σ5 F5 H5 L5 s5 O5 hE5 => ⟨F5, L5, γ2, sF3.trans s5, O5, hE5, e3⟩
    | cnt γ2 => exact fun σ5 F5 H5 L5 s5 O5 hE5 => ⟨F5, L5, γ2, sF3.trans s5, O5, hE5, e3⟩
    | brk γ2 =>
      cases e3
      exact fun σ5 F5 H5 L5 s5 O5 hE5 => fin σ5 F5 H5 L5 (s1.f0.trans (sF3.trans s5)) O5 hE5
    | ret b =>
      cases e3
      exact s.mo fin (s1.f0.trans sF3)
  · have hi2 : i = xs.length := by omega
    subst hi2
    rw [List.drop_length] at e'
    cases e'
    exact .inl ⟨it.stop sF' O'.fh, fin _ _ _ _ (s1.f0.trans sF') O' hE'⟩⟩
def whileN {κ : Type} (c : ρ → Option Bool) (step : ρ → Option (Res ρ ρ β)) : Nat → ρ → Option (Res ρ κ β)
  | 0, _ => none
  | n + 1, γ => ob (c γ) fun b => if b = true then ob (step γ) fun r => match r with
    | .nxt γ' => whileN c step n γ'
    | .cnt γ' => whileN c step n γ'
    | .brk γ' => some (.nxt γ')
    | .ret b => some (.ret b) else some (.nxt γ)
theorem whileN_more {κ : Type} {c : ρ → Option Bool} {step : ρ → Option (Res ρ ρ β)} : ∀ {n : Nat} {γ : ρ} {r : Res ρ κ β}, whileN c step n γ = some r → whileN c step (n + 1) γ = some r
  | 0, _, _, h => nomatch h
  | n + 1, γ, r, h => by
    obtain ⟨b, e1, e⟩ := ob_some h
    rw [whileN, e1]
    show (if b = true then _ else _) = _
    cases b with
    | false => rw [if_neg Bool.false_ne_true] at e ⊢; exact e
    | true =>
      rw [if_pos rfl] at e ⊢
      obtain ⟨q, e2, e⟩ := ob_some e
      rw [e2]
      show (match q with | .nxt γ' => _ | .cnt γ' => _ | .brk γ' => _ | .ret b => _) = _
      cases q with
      | nxt γ' => exact whileN_more e
      | cnt γ' => exact whileN_more e
      | brk γ' => exact e
      | ret b => exact e
theorem whileN_le {κ : Type} {c : ρ → Option Bool} {step : ρ → Option (Res ρ ρ β)} {n m : Nat} {γ : ρ} {r : Res ρ κ β} (h : whileN c step n γ = some r) (l : n ≤ m) : whileN c step m γ = some r := by
  obtain ⟨k, rfl⟩ : ∃ k, m = n + k := ⟨m - n, by omega⟩
  induction k with
  | zero => exact h
  | succ k ih => exact whileN_more (ih (by omega))
open Classical in
noncomputable def whileR {κ : Type} (c : ρ → Option Bool) (step : ρ → Option (Res ρ ρ β)) (γ : ρ) : Option (Res ρ κ β) := if h : ∃ n r, whileN (κ := κ) c step n γ = some r then some h.choose_spec.choose else none
theorem whileR_some {κ : Type} {c : ρ → Option Bool} {step : ρ → Option (Res ρ ρ β)} {γ : ρ} {r : Res ρ κ β} (h : whileR c step γ = some r) : ∃ n, whileN c step n γ = some r := by
  unfold whileR at h
  split at h
  · next q =>
    cases h
    exact ⟨_, q.choose_spec.choose_spec⟩
  · cases h
theorem whileR_of {κ : Type} {c : ρ → Option Bool} {step : ρ → Option (Res ρ ρ β)} {γ : ρ} {r : Res ρ κ β} {n : Nat} (h : whileN c step n γ = some r) : whileR c step γ = some r := by
  unfold whileR
  have q : ∃ n r, whileN (κ := κ) c step n γ = some r := ⟨n, r, h⟩
  rw [dif_pos q]
  have h2 := q.choose_spec.choose_spec
  rcases Nat.le_total n q.choose with l | l
  · exact h2.symm.trans (whileN_le h l)
  · rw [whileN_le h2 l] at h
    exact h
theorem ss_while {c : TT} {tb : TS} {fc : ρ → Option Bool} {mb : ρ → Option (Res ρ ρ β)} (hc : ST c E fc) (hb : SS tb E E E s mb) : SS (tWhile c tb) E E Ec s (fun γ => whileR fc mb γ) := ⟨fun {σ F0 H0 F H L γ r D} O hE e fin => by
  obtain ⟨n, e⟩ := whileR_some e
  refine ⟨fun m σ' H' => ∃ F' L' γ', Same F F' ∧ Own F0 H0 F' H' L' [] ∧ E.r σ' F' L' γ' ∧ whileN fc mb m γ' = some r, ⟨n, F, L, γ, Same.refl _, O, hE, e⟩, ?_⟩
  rintro m σ' H' ⟨F', L', γ', sF', O', hE', e'⟩
  cases m with
  | zero => cases e'
  | succ m =>
    obtain ⟨b, e1, e2⟩ := ob_some e'
    refine hc O'.fh (Held.of O') hE' e1 fun F1 H1 s1 => ?_
    have O1 := Own.on O' s1
    rw [List.nil_append] at O1
    have sF1 := sF'.trans s1.f0
    cases b with
    | false =>
      rw [if_neg Bool.false_ne_true] at e2 ⊢
      cases e2
      exact fin _ _ _ _ sF1 O1 (E.m s1.f0 hE')
    | true =>
      rw [if_pos rfl] at e2 ⊢
      obtain ⟨r1, e3, e4⟩ := ob_some e2
      refine ⟨fun σ2 H2 => ∃ F' L' γ', Same F F' ∧ Own F0 H0 F' H2 L' [] ∧ E.r σ2 F' L' γ' ∧ whileN fc mb m γ' = some r, fun σ2 H2 h => ⟨m, by omega, h⟩, ?_⟩
      refine hb.run O1 (E.m s1.f0 hE') e3 ?_
      cases r1 with
      | nxt γ2 => exact fun σ5 F5 H5 L5 s5 O5 hE5 => ⟨F5, L5, γ2, sF1.trans s5, O5, hE5, e4⟩
      | cnt γ2 => exact fun σ5 F5 H5 L5 s5 O5 hE5 => ⟨F5, L5, γ2, sF1.trans s5, O5, hE5, e4⟩
      | brk γ2 =>
        cases e4
        exact fun σ5 F5 H5 L5 s5 O5 hE5 => fin σ5 F5 H5 L5 (sF1.trans s5) O5 hE5
      | ret b =>
        cases e4
        exact s.mo fin sF1⟩
/-! ### defs -/
variable {s : Sl β}
/-- called with such arguments, it hands back what the mirror tells -/
def spM (A : Ar ρ) (s : Sl β) (m : ρ → Option β) : Sp := fun vs H Q _ => ∃ F γ b, Same F H ∧ A.r F vs γ ∧ m γ = some b ∧ ∀ v F' H' L, Step F H F' H' L → s.r v F' L b → Q v H'
theorem se_call {a : Ar α} {f : ρ → Option α} {m : α → Option β} {Ex : XK} (h : SA tA E a f) : SE (tCall (spM a s m) [] Ex tA) E s (fun γ => ob (f γ) m) := ⟨fun s0 hL he e k => by
  obtain ⟨x, e1, e⟩ := ob_some e
  rw [q_call]
  exact h s0 hL he e1 fun vs F1 H1 s1 r1 => ⟨F1, x, _, s1.fh, r1, e, fun v F' H' L s2 r2 => k v F' H' L (s1.tr s2) r2⟩⟩
/-- arguments and the names of a def at its start -/
structure AE (a : Ar ρ) (E : En ρ) (n : Nat) : Prop where
  run : ∀ {F : Hp} {vs : List V} {γ : ρ}, a.r F vs γ → E.r (vs.map some ++ List.replicate n none) F [] γ
theorem ae_0 : AE aN eN 0 := ⟨fun e => by
  have e : _ = [] := e
  subst e
  exact ⟨rfl, rfl⟩⟩
theorem ae_U {a : Ar Unit} {E : En Unit} {n : Nat} (ha : a = aN) (h : AE a E n) : AE a (eU E) (n + 1) := ⟨fun {F vs γ} e => by
  have h2 := h.run e
  subst ha
  have e2 : vs = [] := e
  subst e2
  exact ⟨none, List.replicate n none, rfl, h2⟩⟩
theorem ae_C {a : Ar ρ} {n : Nat} (h : AE a E n) : AE (aC A a) (eC (sF A) E) n := ⟨fun ⟨v, r, e, r1, r2⟩ => by
  subst e
  exact ⟨v, _, [], [], rfl, rfl, ⟨rfl, r1⟩, h.run r2⟩⟩
structure AN (a : Ar ρ) (n : Nat) : Prop where
  run : ∀ {F : Hp} {vs : List V} {γ : ρ}, a.r F vs γ → vs.length = n
theorem an_0 : AN aN 0 := ⟨fun e => by rw [show _ = [] from e]; rfl⟩
theorem an_C {a : Ar ρ} {n : Nat} (h : AN a n) : AN (aC A a) (n + 1) := ⟨fun ⟨v, r, e, r1, r2⟩ => by rw [e, List.length_cons, h.run r2]⟩
/-- what a def hands back -/
def fin (x : Option (Res ρ κ β)) : Option β := ob x fun r => match r with | .ret b => some b | _ => none
def finN (x : Option (Res ρ κ Unit)) : Option Unit := ob x fun r => match r with | .ret b => some b | .nxt _ => some () | _ => none
theorem fin_run {a : Ar ρ} {n k : Nat} {N : List Str} {m : ρ → Option (Res ρ' Unit β)} {mm : ρ → Option β} (hA : AE a E n) (hn : AN a k) (hN : N.length = k + n) (h : SS t E E' eN (rS s) m) (hm : mm = fun γ => fin (m γ)) {vs : List V} {H : Hp} {Q : VK} {Ex : XK} (q : spM a s mm vs H Q Ex) {D : Ends} (hD : D.rt = Q) : t D (L2.start N vs) H := by
  obtain ⟨F, γ, b, s0, r, e, k⟩ := q
  subst hm
  obtain ⟨r1, e1, e2⟩ := ob_some e
  have hl := hn.run r
  have hs : L2.start N vs = vs.map some ++ List.replicate n none := by
    unfold L2.start
    rw [show N.length - vs.length = n by omega]
  rw [hs]
  refine h.run (Own.start s0 trivial) (hA.run r) e1 ?_
  cases r1 with
  | ret b => cases e2; rw [← hD] at k; exact fun v F' H' L _ O r' => k v F' H' L O r'
  | nxt _ => cases e2
  | cnt _ => cases e2
  | brk _ => cases e2
theorem finN_run {a : Ar ρ} {n k : Nat} {N : List Str} {m : ρ → Option (Res ρ' Unit Unit)} {mm : ρ → Option Unit} (hA : AE a E n) (hn : AN a k) (hN : N.length = k + n) (h : SS t E E' eN (rS (sF jN)) m) (hm : mm = fun γ => finN (m γ)) {vs : List V} {H : Hp} {Q : VK} {Ex : XK} (q : spM a (sF jN) mm vs H Q Ex) {D : Ends} (hD : D.rt = Q) (hD2 : D.nx = fun _ H' => Q .non H') : t D (L2.start N vs) H := by
  obtain ⟨F, γ, b, s0, r, e, k⟩ := q
  subst hm
  obtain ⟨r1, e1, e2⟩ := ob_some e
  have hl := hn.run r
  have hs : L2.start N vs = vs.map some ++ List.replicate n none := by
    unfold L2.start
    rw [show N.length - vs.length = n by omega]
  rw [hs]
  refine h.run (Own.start s0 trivial) (hA.run r) e1 ?_
  cases r1 with
  | ret b => cases e2; rw [← hD] at k; exact fun v F' H' L _ O r' => k v F' H' L O r'
  | nxt _ => exact fun σ F' H' L _ O r' => by rw [hD2]; exact k .non F' H' [] (OwnSb O (Sb.nil _)) ⟨rfl, rfl⟩
  | cnt _ => cases e2
  | brk _ => cases e2
theorem spM_len {a : Ar ρ} {m : ρ → Option β} {n : Nat} (h : AN a n) : ∀ vs H Q E, spM a s m vs H Q E → vs.length = n := fun _ _ _ _ ⟨_, _, _, _, r, _⟩ => h.run r
end
end Mi

namespace Mi
open PySem PySem.Spec PyProof.Rows L2 Fw
section
variable {ρ ρ' ρ'' α β δ ε κ : Type} {E : En ρ} {E' : En ρ'} {E1 : En ρ''} {Ec : En κ} {ta tb tc te : TE} {tA : TA} {A : Rp α} {B : Rp β} {D : Rp δ} {fa : ρ → Option α} {fb : ρ → Option β} {fc : ρ → Option δ} {K : PySem.W.Frag} {s : Sl β} {t u : TS}
/-! ### things read as they stand -/
structure SR (t : TE) (E : En ρ) (R : Rp α) (f : ρ → Option α) : Prop where
  run : ∀ {σ : L2.St} {F H : Hp} {L : List (Addr × HO)} {γ : ρ} {x : α} {Q : VK}, Same F H → Held H L → E.r σ F L γ → f γ = some x → (∀ v F' H', Step F H F' H' [] → R.r H' v x → Q v H') → t σ H Q
theorem sr_var {i : Nat} {R : Rp α} {g : ρ → List α} (hg : Gt E i (sO R) g) : SR (tVar i) E (jL R) (fun γ => some (g γ)) := ⟨fun s0 hL hE e k => by
  cases e
  obtain ⟨v, L1, h1, h2, p, vs, h3, h4, h5⟩ := hg hE
  subst h3 h4
  exact ⟨_, h1, k _ _ _ (Step.nil s0) ⟨p, vs, rfl, hL _ (h2 _ List.mem_cons_self), Paired.mono (fun _ _ q => R.m s0 q) h5⟩⟩⟩
theorem sr_of (h : SE ta E (sF A) fa) : SR ta E A fa := ⟨fun s0 hL hE e k => h s0 hL hE e fun v F' H' L1 s1 ⟨z, r⟩ => by
  subst z
  exact k _ _ _ s1 (A.m s1.fh r)⟩
theorem sb_var {i : Nat} {R : Rp α} {g : ρ → List α} (hg : Gt E i (sO R) g) : SB (tVar i) E R (fun γ => some (g γ)) := ⟨fun s0 hL hE e k => by
  cases e
  obtain ⟨v, L1, h1, h2, p, vs, h3, h4, h5⟩ := hg hE
  subst h3 h4
  exact ⟨_, h1, k _ _ _ _ (Step.nil s0) (hL _ (h2 _ List.mem_cons_self)) h5⟩⟩
/-- no heap in it -/
structure Scal (R : Rp α) : Prop where
  run : ∀ {F F' : Hp} {v : V} {x : α}, R.r F v x → R.r F' v x
theorem scI : Scal jI := ⟨fun h => h⟩
theorem scB : Scal jB := ⟨fun h => h⟩
theorem scS : Scal jS := ⟨fun h => h⟩
theorem scN : Scal jN := ⟨fun h => h⟩
theorem scO {R : Rp α} (h : Scal R) : Scal (jO R) := ⟨fun {_ _ _ x} q => by
  cases x with
  | none => exact q
  | some y => exact h.run q⟩
theorem Step.of {F H F' H' : Hp} (s0 : Same F H) (s : Step H H F' H' []) : Step F H F H' [] := (Step.nil s0).more s.hh
theorem Step.scal {F H F' H' : Hp} {L : List (Addr × HO)} (s0 : Same F H) (s : Step H H F' H' L) : Step F H F H' [] := (Step.nil s0).more s.hh
theorem se_opR {r : R2} {g : α → β → Option δ} (ha : SR ta E A fa) (hb : SR tb E B fb) (hs : S2 r A B (sF D) g) (hd : Scal D) : SE (tOp r ta tb) E (sF D) (fun γ => ob (fa γ) fun x => ob (fb γ) fun y => g x y) := ⟨fun s0 hL hE e k => by
  obtain ⟨x, e1, e⟩ := ob_some e
  obtain ⟨y, e2, e⟩ := ob_some e
  refine ha.run s0 hL hE e1 fun v F1 H1 s1 r1 => ?_
  refine hb.run s1.fh (hL.mono s1.hh) (E.m s1.f0 hE) e2 fun u F2 H2 s2 r2 => ?_
  exact hs (Same.refl H2) (A.m s2.hh r1) r2 e fun z F3 H3 L3 s3 ⟨_, r3⟩ => k z F2 H3 [] ((s1.tr s2).tr (Step.scal s2.fh s3)) ⟨rfl, hd.run r3⟩⟩
structure SRA (t : TA) (E : En ρ) (A : Ar α) (f : ρ → Option α) : Prop where
  run : ∀ {σ : L2.St} {F H : Hp} {L : List (Addr × HO)} {γ : ρ} {x : α} {Q : List V → Hp → Prop}, Same F H → Held H L → E.r σ F L γ → f γ = some x → (∀ vs F' H', Step F H F' H' [] → A.r H' vs x → Q vs H') → t σ H Q
theorem sra_nil : SRA tNil E aN (fun _ => some ()) := ⟨fun s0 _ _ e k => k _ _ _ (Step.nil s0) rfl⟩
theorem sra_cons {tr : TA} {T : Ar β} {fr : ρ → Option β} (ha : SR ta E A fa) (hr : SRA tr E T fr) : SRA (tCons ta tr) E (aC A T) (fun γ => ob (fa γ) fun x => ob (fr γ) fun y => some (x, y)) := ⟨fun s0 hL hE e k => by
  obtain ⟨x, e1, e⟩ := ob_some e
  obtain ⟨y, e2, e⟩ := ob_some e
  cases e
  refine ha.run s0 hL hE e1 fun v F1 H1 s1 r1 => ?_
  exact hr.run s1.fh (hL.mono s1.hh) (E.m s1.f0 hE) e2 fun vs F2 H2 s2 r2 => k _ _ _ (s1.tr s2) ⟨v, vs, rfl, A.m s2.hh r1, r2⟩⟩
theorem se_cbR {r : List V → Hp → VK → Prop} {a : Ar α} {g : α → Option δ} {f : ρ → Option α} (h : SRA tA E a f) (hs : SC r a (sF D) g) (hd : Scal D) : SE (tCB r tA) E (sF D) (fun γ => ob (f γ) g) := ⟨fun s0 hL he e k => by
  obtain ⟨x, e1, e⟩ := ob_some e
  refine h.run s0 hL he e1 fun vs F1 H1 s1 r1 => ?_
  exact hs.run (Same.refl H1) r1 e fun z F5 H5 L5 s5 ⟨_, r5⟩ => k z F1 H5 [] (s1.tr (Step.scal s1.fh s5)) ⟨rfl, hd.run r5⟩⟩
theorem se_callR {a : Ar α} {f : ρ → Option α} {m : α → Option δ} {Ex : XK} (h : SRA tA E a f) (hd : Scal D) : SE (tCall (spM a (sF D) m) [] Ex tA) E (sF D) (fun γ => ob (f γ) m) := ⟨fun s0 hL he e k => by
  obtain ⟨x, e1, e⟩ := ob_some e
  rw [q_call]
  exact h.run s0 hL he e1 fun vs F1 H1 s1 r1 => ⟨H1, x, _, Same.refl _, r1, e, fun v F' H' L s2 ⟨_, r2⟩ => k v F1 H' [] (s1.tr (Step.scal s1.fh s2)) ⟨rfl, hd.run r2⟩⟩⟩
/-- an own list's item -/
theorem se_ixB {fa : ρ → Option (List α)} {fi : ρ → Option Int} (ha : SB ta E A fa) (hb : SE tb E (sF jI) fi) : SE (tOp (rIxL K) ta tb) E (sF A) (fun γ => ob (fa γ) fun x => ob (fi γ) fun y => pat x y) := ⟨fun s0 hL hE e k => by
  obtain ⟨x, e1, e⟩ := ob_some e
  obtain ⟨y, e2, e⟩ := ob_some e
  refine ha s0 hL hE e1 fun a vs F1 H1 s1 h1 p => ?_
  refine hb s1.fh (hL.mono s1.hh) (E.m s1.f0 hE) e2 fun u F2 H2 L2 s2 ⟨z2, r2⟩ => ?_
  subst z2
  obtain ⟨v, h2, h3⟩ := pat_paired p e
  exact ⟨a, vs, y, v, rfl, r2, .inl (.inl (s2.hh _ _ h1)), h2, k _ _ _ [] (s1.tr s2) ⟨rfl, A.m s2.f0 h3⟩⟩⟩
/-! truth of a list -/
theorem st_truR {fa : ρ → Option (List α)} (ha : SR ta E (jL A) fa) : ST (fun σ H Q => ta σ H fun x H' => ∃ k, TruV K x H' k ∧ Q k H') E (fun γ => ob (fa γ) fun x => some (!x.isEmpty)) := ⟨fun s0 hL hE e k => by
  obtain ⟨x, e1, e⟩ := ob_some e
  cases e
  refine ha.run s0 hL hE e1 fun v F1 H1 s1 ⟨a, vs, r1, r2, p⟩ => ?_
  subst r1
  refine ⟨_, .inl ⟨vs, .inl (.inl r2), rfl⟩, ?_⟩
  have : vs.isEmpty = x.isEmpty := by
    have := Paired.len p
    cases vs <;> cases x <;> first | rfl | cases this
  rw [this]
  exact k _ _ s1⟩
/-! ### equality of data -/
structure Eqr (R : Rp α) (n : Nat) (dt : α → PyData) [DecidableEq α] : Prop where
  dp : ∀ {K : PySem.W.Frag} {F : Hp} {v : V} {x : α}, R.r F v x → Dp K F v (dt x)
  sh : ∀ {F : Hp} {v : V} {x : α}, R.r F v x → PyData.canLay0 (dt x) = true
  dep : ∀ x, (dt x).depth ≤ n
  eq : ∀ x y, PyData.eqv (dt x) (dt y) = decide (x = y)
theorem qI : Eqr jI 0 PyData.int := ⟨fun {_ _ v x} h => by rw [show v = .int x from h]; exact .int x, fun _ => rfl, fun _ => Nat.le_refl _, fun x y => by
  show (x == y) = _
  rw [Bool.eq_iff_iff, beq_iff_eq, decide_eq_true_iff]⟩
theorem qB : Eqr jB 0 PyData.bool := ⟨fun {_ _ v x} h => by rw [show v = .bl x from h]; exact .bl x, fun _ => rfl, fun _ => Nat.le_refl _, fun x y => by
  show (x == y) = _
  rw [Bool.eq_iff_iff, beq_iff_eq, decide_eq_true_iff]⟩
theorem qS : Eqr jS 0 (fun l => PyData.str (S l)) := ⟨fun {_ _ v x} h => by rw [show v = vS x from h.1]; exact .str _, fun {_ _ x} h => by
  show PyData.strOk (S x) = true
  unfold PyData.strOk
  rw [Array.all_eq_true']
  intro c hc
  exact decide_eq_true (h.2 c (by simpa [S] using hc)), fun _ => Nat.le_refl _, fun x y => by
  show (S x == S y) = _
  rw [Bool.eq_iff_iff, beq_iff_eq, decide_eq_true_iff]
  exact S_inj⟩
theorem qN : Eqr jN 0 (fun _ => PyData.none) := ⟨fun {_ _ v x} h => by rw [show v = .non from h]; exact .non, fun _ => rfl, fun _ => Nat.le_refl _, fun x y => by
  show true = _
  rw [Bool.eq_iff_iff, decide_eq_true_iff]
  exact ⟨fun _ => rfl, fun _ => rfl⟩⟩
section
variable [DecidableEq α] [DecidableEq ρ'] {n m : Nat} {dt : α → PyData} {R : Rp α}
theorem q_all (h : Eqr R n dt) : ∀ xs ys : List α, PyData.eqvAll (xs.map dt) (ys.map dt) = decide (xs = ys)
  | [], [] => rfl
  | [], y :: ys => rfl
  | x :: xs, [] => rfl
  | x :: xs, y :: ys => by
    show (PyData.eqv (dt x) (dt y) && PyData.eqvAll (xs.map dt) (ys.map dt)) = _
    rw [h.eq, q_all h xs ys]
    rw [Bool.eq_iff_iff, Bool.and_eq_true, decide_eq_true_iff, decide_eq_true_iff, decide_eq_true_iff, List.cons.injEq]
theorem q_can (h : Eqr R n dt) {F : Hp} : ∀ {vs : List V} {xs : List α}, Paired (R.r F) vs xs → PyData.canLayAll0 (xs.map dt) = true
  | _, _, .nil => rfl
  | _, x :: xs, .cons r t => by
    show (PyData.canLay0 (dt x) && PyData.canLayAll0 (xs.map dt)) = true
    rw [h.sh r, q_can h t]
    rfl
theorem q_dep (h : Eqr R n dt) : ∀ xs : List α, PyData.depthAll (xs.map dt) ≤ n
  | [] => Nat.zero_le _
  | x :: xs => by
    show max (dt x).depth (PyData.depthAll (xs.map dt)) ≤ n
    have := h.dep x
    have := q_dep h xs
    omega
theorem q_dps (h : Eqr R n dt) {K : PySem.W.Frag} {F : Hp} : ∀ {vs : List V} {xs : List α}, Paired (R.r F) vs xs → DpAll K F vs (xs.map dt)
  | _, _, .nil => .nil
  | _, _, .cons r t => .cons (h.dp r) (q_dps h t)
theorem qL (h : Eqr R n dt) : Eqr (jL R) (n + 1) (fun xs => PyData.list (xs.map dt)) := ⟨fun ⟨a, vs, e, h1, p⟩ => by
  rw [e]
  exact .lst (.inl (.inl h1)) (q_dps h p), fun ⟨_, _, _, _, p⟩ => q_can h p, fun xs => by
    show PyData.depthAll (xs.map dt) + 1 ≤ n + 1
    have := q_dep h xs
    omega, q_all h⟩
structure EqT (T : Tp ρ') (n : Nat) (dt : ρ' → List PyData) : Prop where
  dp : ∀ {K : PySem.W.Frag} {F : Hp} {vs : List V} {x : ρ'}, T.r F vs x → DpAll K F vs (dt x)
  sh : ∀ {F : Hp} {vs : List V} {x : ρ'}, T.r F vs x → PyData.canLayAll0 (dt x) = true
  dep : ∀ x, PyData.depthAll (dt x) ≤ n
  eq : ∀ x y, PyData.eqvAll (dt x) (dt y) = decide (x = y)
theorem q1 (h : Eqr R n dt) : EqT (y1 R) n (fun x => [dt x]) := ⟨fun ⟨v, e, r⟩ => by rw [e]; exact .cons (h.dp r) .nil, fun {_ _ x} ⟨v, e, r⟩ => by
  show (PyData.canLay0 (dt x) && true) = true
  rw [h.sh r]; rfl, fun x => by
  show max (dt x).depth 0 ≤ n
  have := h.dep x
  omega, fun x y => by
  show (PyData.eqv (dt x) (dt y) && true) = _
  rw [h.eq, Bool.and_true]⟩
theorem qC {T : Tp ρ'} {dts : ρ' → List PyData} (h : Eqr R n dt) (ht : EqT T m dts) : EqT (yC R T) (max n m) (fun x => dt x.1 :: dts x.2) := ⟨fun ⟨v, r, e, r1, r2⟩ => by rw [e]; exact .cons (h.dp r1) (ht.dp r2), fun {_ _ x} ⟨v, r, e, r1, r2⟩ => by
  show (PyData.canLay0 (dt x.1) && PyData.canLayAll0 (dts x.2)) = true
  rw [h.sh r1, ht.sh r2]; rfl, fun x => by
  show max (dt x.1).depth (PyData.depthAll (dts x.2)) ≤ max n m
  have := h.dep x.1
  have := ht.dep x.2
  omega, fun x y => by
  show (PyData.eqv (dt x.1) (dt y.1) && PyData.eqvAll (dts x.2) (dts y.2)) = _
  rw [h.eq, ht.eq, Bool.eq_iff_iff, Bool.and_eq_true, decide_eq_true_iff, decide_eq_true_iff, decide_eq_true_iff]
  exact ⟨fun ⟨a, b⟩ => Prod.ext a b, fun a => by rw [a]; exact ⟨rfl, rfl⟩⟩⟩
theorem qT {T : Tp ρ'} {dts : ρ' → List PyData} (ht : EqT T m dts) : Eqr (jT T) (m + 1) (fun x => PyData.tuple (dts x)) := ⟨fun ⟨a, vs, e, h1, p⟩ => by
  rw [e]
  exact .tup (.inl (.inl h1)) (ht.dp p), fun ⟨_, _, _, _, p⟩ => ht.sh p, fun x => by
    show PyData.depthAll (dts x) + 1 ≤ m + 1
    have := ht.dep x
    omega, ht.eq⟩
/-- none against data that is no none -/
structure NoN (R : Rp α) (n : Nat) (dt : α → PyData) [DecidableEq α] : Prop extends Eqr R n dt where
  nn : ∀ x, PyData.eqv PyData.none (dt x) = false ∧ PyData.eqv (dt x) PyData.none = false
theorem qO (h : NoN R n dt) : Eqr (jO R) n (fun x => match x with | none => PyData.none | some y => dt y) := ⟨fun {_ _ _ x} r => by
  cases x with
  | none => rw [show _ = V.non from r]; exact .non
  | some y => exact h.dp r, fun {_ _ x} r => by
    cases x with
    | none => rfl
    | some y => exact h.sh r, fun x => by
    cases x with
    | none => exact Nat.zero_le _
    | some y => exact h.dep y, fun x y => by
    cases x with
    | none => cases y with
      | none => rfl
      | some y => rw [show decide (none = some y) = false from rfl]; exact (h.nn y).1
    | some x => cases y with
      | none => rw [show decide (some x = none) = false from rfl]; exact (h.nn x).2
      | some y =>
        show PyData.eqv (dt x) (dt y) = _
        rw [h.eq, Bool.eq_iff_iff, decide_eq_true_iff, decide_eq_true_iff, Option.some.injEq]⟩
theorem nnI : NoN jI 0 PyData.int := ⟨qI, fun _ => ⟨rfl, rfl⟩⟩
theorem nnT {T : Tp ρ'} {dts : ρ' → List PyData} (ht : EqT T m dts) : NoN (jT T) (m + 1) (fun x => PyData.tuple (dts x)) := ⟨qT ht, fun _ => ⟨rfl, rfl⟩⟩
theorem shp (h : Eqr R n dt) (hn : n ≤ 64) {F : Hp} {v : V} {x : α} (r : R.r F v x) : SeqAt.shaped (dt x) = true := by
  unfold SeqAt.shaped
  refine Bool.and_eq_true_iff.mpr ⟨h.sh r, decide_eq_true ?_⟩
  have := h.dep x
  omega
theorem s2_eqD (h : Eqr R n dt) (hn : n ≤ 64 := by decide) : S2 (rEqD K) R R (sF jB) (fun x y => some (decide (x = y))) := ⟨fun s0 r1 r2 e k => by
  cases e
  exact ⟨_, _, Dp.mono s0 _ _ (h.dp r1), Dp.mono s0 _ _ (h.dp r2), shp h hn r1, shp h hn r2, by rw [h.eq]; exact k _ _ _ [] (Step.nil s0) ⟨rfl, rfl⟩⟩⟩
theorem s2_neD (h : Eqr R n dt) (hn : n ≤ 64 := by decide) : S2 (rNeD K) R R (sF jB) (fun x y => some (!decide (x = y))) := ⟨fun s0 r1 r2 e k => by
  cases e
  exact ⟨_, _, Dp.mono s0 _ _ (h.dp r1), Dp.mono s0 _ _ (h.dp r2), shp h hn r1, shp h hn r2, by rw [h.eq]; exact k _ _ _ [] (Step.nil s0) ⟨rfl, rfl⟩⟩⟩
theorem any_dec (h : Eqr R n dt) (x : α) : ∀ ys : List α, ((ys.map dt).any fun z => PyData.eqv z (dt x)) = decide (x ∈ ys)
  | [] => rfl
  | y :: ys => by
    rw [List.map_cons, List.any_cons, any_dec h x ys, h.eq, Bool.eq_iff_iff, Bool.or_eq_true, decide_eq_true_iff, decide_eq_true_iff, decide_eq_true_iff, List.mem_cons]
    exact ⟨fun q => q.elim (fun a => .inl a.symm) .inr, fun q => q.elim (fun a => .inl a.symm) .inr⟩
theorem s2_inD (h : Eqr R n dt) (hn : n ≤ 63 := by decide) : S2 (rInD K) R (jL R) (sF jB) (fun x ys => some (decide (x ∈ ys))) := ⟨fun s0 r1 r2 e k => by
  cases e
  exact ⟨_, _, Dp.mono s0 _ _ (h.dp r1), Dp.mono s0 _ _ ((qL h).dp r2), shp h (by omega) r1, shp (qL h) (by omega) r2, by rw [any_dec h]; exact k _ _ _ [] (Step.nil s0) ⟨rfl, rfl⟩⟩⟩
theorem s2_notInD (h : Eqr R n dt) (hn : n ≤ 63 := by decide) : S2 (rNotInD K) R (jL R) (sF jB) (fun x ys => some (!decide (x ∈ ys))) := ⟨fun s0 r1 r2 e k => by
  cases e
  exact ⟨_, _, Dp.mono s0 _ _ (h.dp r1), Dp.mono s0 _ _ ((qL h).dp r2), shp h (by omega) r1, shp (qL h) (by omega) r2, by rw [any_dec h]; exact k _ _ _ [] (Step.nil s0) ⟨rfl, rfl⟩⟩⟩
end
/-! none -/
/-- never none -/
structure NN (R : Rp α) : Prop where
  run : ∀ {F : Hp} {v : V} {x : α}, R.r F v x → v ≠ .non
theorem oI : NN jI := ⟨fun h e => by rw [show _ = V.int _ from h] at e; cases e⟩
theorem oS : NN jS := ⟨fun h e => by rw [show _ = V.str _ from h.1] at e; cases e⟩
theorem oT {T : Tp α} : NN (jT T) := ⟨fun ⟨_, _, h, _⟩ e => by rw [h] at e; cases e⟩
theorem oL : NN (jL A) := ⟨fun ⟨_, _, h, _⟩ e => by rw [h] at e; cases e⟩
theorem s2_isN (h : NN A) : S2 rIsN (jO A) jN (sF jB) (fun x _ => some x.isNone) := ⟨fun {_ _ v _ x _ _ _} s0 r1 r2 e k => by
  cases e
  refine ⟨r2, ?_⟩
  have : decide (v = V.non) = x.isNone := by
    cases x with
    | none => exact decide_eq_true r1
    | some y => exact decide_eq_false (h.run r1)
  rw [this]
  exact k _ _ _ [] (Step.nil s0) ⟨rfl, rfl⟩⟩
theorem s2_notN (h : NN A) : S2 rNotN (jO A) jN (sF jB) (fun x _ => some x.isSome) := ⟨fun {_ _ v _ x _ _ _} s0 r1 r2 e k => by
  cases e
  refine ⟨r2, ?_⟩
  have : (!decide (v = V.non)) = x.isSome := by
    cases x with
    | none => rw [show v = V.non from r1]; rfl
    | some y => rw [decide_eq_false (h.run r1)]; rfl
  rw [this]
  exact k _ _ _ [] (Step.nil s0) ⟨rfl, rfl⟩⟩
/-! numbers -/
def PShl (i j : Int) : Prop := 0 ≤ j ∧ (Builtin.Int.intBits i : Int) + j ≤ 134217728
noncomputable instance (i j : Int) : Decidable (PShl i j) := Classical.propDecidable _
theorem s2_shl : S2 (rI CShl fun i j => .int (i * 2 ^ j.toNat)) jI jI (sF jI) (fun x y => pck (PShl x y) (x * 2 ^ y.toNat)) := s2_I (P := PShl) (f := fun i j => i * 2 ^ j.toNat) fun _ _ h => h
/-- the text of a number -/
def pstr (i : Int) : Option (List Nat) := pck (0 ≤ i ∧ i < 100000000000000000000) (TL.numL i.toNat)
theorem sc_strN : SC rStr (aC jI aN) (sF jS) (fun x => pstr x.1) := ⟨fun {_ _ _ a _ _} s0 ⟨v, r, e1, r1, e2⟩ e k => by
  subst e1 e2
  unfold pstr at e
  obtain ⟨p, rfl⟩ := pck_some e
  have : v = V.int ((a.1.toNat : Nat) : Int) := by rw [show v = .int a.1 from r1, Int.toNat_of_nonneg p.1]
  subst this
  exact w_strN (k _ _ _ [] (Step.nil s0) ⟨rfl, rfl, fun c hc => by have := TL.numL_digits _ c hc; omega⟩) (by omega)⟩
/-- xs.index(y), numbers -/
def plidx (xs : List Int) (y : Int) : Option Int := pck (y ∈ xs) (xs.idxOf y : Int)
theorem flat_ints (ys : List Int) : (ys.map V.int).all flatV = true := by
  induction ys with
  | nil => rfl
  | cons y ys ih => exact ih
theorem s2_lidx : S2 (fun x y => rIndex K x [y]) (jL jI) jI (sF jI) (fun x y => plidx x y) := ⟨fun {_ _ _ _ xs y _ _} s0 ⟨a, vs, e1, h, p⟩ r2 e k => by
  unfold plidx at e
  obtain ⟨hm, rfl⟩ := pck_some e
  have ev := ints_of p
  subst e1 ev
  have hlt : xs.idxOf y < xs.length := List.idxOf_lt_length_of_mem hm
  refine ⟨a, xs.map V.int, .int y, xs.idxOf y, .int y, rfl, by rw [show _ = V.int y from r2], .inl (.inl (s0 _ _ h)), rfl, flat_ints _, ?_, ?_, fun m z' hm' hz => ?_, k _ _ _ [] (Step.nil s0) ⟨rfl, rfl⟩⟩
  · rw [List.getElem?_map, List.getElem?_eq_getElem hlt, List.getElem_idxOf hlt]
    rfl
  · show (decide (y = y)) = true
    exact decide_eq_true rfl
  · rw [List.getElem?_map] at hz
    cases hx : xs[m]? with
    | none => rw [hx] at hz; cases hz
    | some w =>
      rw [hx] at hz
      cases hz
      show decide (w = y) = false
      have := List.not_of_lt_findIdx (p := (· == y)) (xs := xs) (i := m) hm'
      obtain ⟨hl, hg⟩ := List.getElem?_eq_some_iff.mp hx
      simp only [hg] at this
      exact decide_eq_false fun z => by rw [z, beq_self_eq_true] at this; cases this⟩
/-- a list's method with one argument, by value -/
theorem se_bm {T : String} {r : V → List V → Hp → VK → Prop} {g : α → β → Option δ} {s : Sl δ} (ha : SE ta E (sF A) fa) (hb : SE tb E (sF B) fb) (hs : S2 (fun x y => r x [y]) A B s g) (ht : ∀ {F H v x}, Same F H → A.r F v x → tyV K T v H) : SE (tBM K T r ta (tCons tb tNil)) E s (fun γ => ob (fa γ) fun x => ob (fb γ) fun y => g x y) := ⟨fun s0 hL he e k => by
  obtain ⟨x, e1, e⟩ := ob_some e
  obtain ⟨y, e2, e⟩ := ob_some e
  refine ha s0 hL he e1 fun v F1 H1 L1 s1 ⟨z1, r1⟩ => ?_
  subst z1
  refine ⟨ht s1.fh r1, ?_⟩
  refine hb s1.fh (hL.mono s1.hh) (E.m s1.f0 he) e2 fun u F2 H2 L2 s2 ⟨z2, r2⟩ => ?_
  subst z2
  exact hs s2.fh (A.m s2.f0 r1) r2 e fun z F3 H3 L3 s3 r3 => k z F3 H3 L3 (s1.tr (s2.tr s3)) r3⟩
theorem tyV_L {F H : Hp} {v : V} {x : List α} (s0 : Same F H) (h : (jL A).r F v x) : tyV K "list" v H := by
  obtain ⟨a, vs, e, h, _⟩ := h
  rw [e]
  exact .inl ⟨rfl, vs, .inl (.inl (s0 _ _ h))⟩
theorem se_lidx {fa : ρ → Option (List Int)} {fb : ρ → Option Int} (ha : SE ta E (sF (jL jI)) fa) (hb : SE tb E (sF jI) fb) : SE (tBM K "list" (rIndex K) ta (tCons tb tNil)) E (sF jI) (fun γ => ob (fa γ) fun x => ob (fb γ) fun y => plidx x y) := se_bm ha hb s2_lidx tyV_L
theorem s2_lcount : S2 (fun x y => rCntI K x [y]) (jL jI) jI (sF jI) (fun x y => some ((x.count y : Nat) : Int)) := ⟨fun {_ _ _ _ xs y _ _} s0 ⟨a, vs, e1, h, p⟩ r2 e k => by
  cases e
  have ev := ints_of p
  subst e1 ev
  exact ⟨a, xs, y, rfl, by rw [show _ = V.int y from r2], .inl (.inl (s0 _ _ h)), k _ _ _ [] (Step.nil s0) ⟨rfl, rfl⟩⟩⟩
theorem se_lcount {fa : ρ → Option (List Int)} {fb : ρ → Option Int} (ha : SE ta E (sF (jL jI)) fa) (hb : SE tb E (sF jI) fb) : SE (tBM K "list" (rCntI K) ta (tCons tb tNil)) E (sF jI) (fun γ => ob (fa γ) fun x => ob (fb γ) fun y => some ((x.count y : Nat) : Int)) := se_bm ha hb s2_lcount tyV_L
end
end Mi

namespace Mi
open PySem PySem.Spec PyProof.Rows L2 Fw
/-! ### own rows behind a list that stays -/
def rowsL : List Addr → List (List V) → List (Addr × HO)
  | p :: ps, r :: rs => (p, .lst r) :: rowsL ps rs
  | _, _ => []
theorem rowsL_len : ∀ {ps : List Addr} {rs : List (List V)}, ps.length = rs.length → (rowsL ps rs).length = rs.length
  | [], [], _ => rfl
  | p :: ps, r :: rs, h => by
    show (rowsL ps rs).length + 1 = rs.length + 1
    rw [rowsL_len (Nat.succ.inj h)]
  | [], _ :: _, h => nomatch h
  | _ :: _, [], h => nomatch h
theorem rowsL_get : ∀ {ps : List Addr} {rs : List (List V)} {k : Nat} {p : Addr} {r : List V}, ps[k]? = some p → rs[k]? = some r → (rowsL ps rs)[k]? = some (p, .lst r)
  | p :: ps, r :: rs, 0, _, _, h1, h2 => by
    have e1 := Option.some.inj h1
    have e2 := Option.some.inj h2
    rw [← e1, ← e2]
    rfl
  | p :: ps, r :: rs, k + 1, _, _, h1, h2 => rowsL_get (k := k) h1 h2
  | [], _, _, _, _, h1, _ => by simp at h1
  | _ :: _, [], _, _, _, _, h2 => by simp at h2
theorem rowsL_set : ∀ {ps : List Addr} {rs : List (List V)} {k : Nat} {p : Addr} {r : List V}, ps[k]? = some p → (rowsL ps rs).set k (p, .lst r) = rowsL ps (rs.set k r)
  | p :: ps, r :: rs, 0, _, _, h1 => by
    have e1 := Option.some.inj h1
    rw [← e1]
    rfl
  | p :: ps, r :: rs, k + 1, _, r', h1 => by
    show _ :: (rowsL ps rs).set k _ = _ :: rowsL ps (rs.set k r')
    rw [rowsL_set (k := k) h1]
  | [], _, _, _, _, h1 => by simp at h1
  | _ :: _, [], _, _, _, _ => rfl
def sG {α : Type} (R : Rp α) : Sl (List (List α)) := ⟨fun v F L xss => ∃ (p : Addr) (ps : List Addr) (rows : List (List V)), v = .ref p ∧ F p = some (.lst (ps.map V.ref)) ∧ ps.length = rows.length ∧ L = rowsL ps rows ∧ Paired (Paired (R.r F)) rows xss,
  fun s ⟨p, ps, rows, h1, h2, h3, h4, h5⟩ => ⟨p, ps, rows, h1, s _ _ h2, h3, h4, Paired.mono (fun _ _ q => Paired.mono (fun _ _ q => R.m s q) q) h5⟩⟩
section
variable {ρ ρ' ρ'' α β δ ε κ : Type} {E : En ρ} {E' : En ρ'} {E1 : En ρ''} {Ec : En κ} {ta tb tc te ti tj : TE} {tA : TA} {R : Rp α} {B : Rp β} {D : Rp δ} {K : PySem.W.Frag} {s : RRt β} {s' : Sl δ} {t u : TS}
/-- xss[i][j] -/
def pcell {τ : Type} (xss : List (List τ)) (i j : Int) : Option τ := ob (pat xss i) fun xs => pat xs j
/-- xss with the cell set -/
def pcset {τ : Type} (xss : List (List τ)) (i j : Int) (x : τ) : Option (List (List τ)) := ob (pat xss i) fun xs => ob (pset xs j x) fun ys => pset xss i ys
theorem pat_ix {τ : Type} {xs : List τ} {i : Int} {x : τ} (h : pat xs i = some x) : ∃ k, ixN xs.length i = some k ∧ xs[k]? = some x := by
  unfold pat atI at h
  cases hj : ixN xs.length i with
  | none => rw [hj] at h; cases h
  | some j => rw [hj] at h; exact ⟨j, rfl, h⟩
theorem paired_left {A : α → β → Prop} : ∀ {xs : List α} {ys : List β} {i : Nat} {x : α}, Paired A xs ys → xs[i]? = some x → ∃ y, ys[i]? = some y ∧ A x y
  | _, _, _, _, .nil, e => by simp at e
  | _, _, 0, _, .cons r _, e => by
    have e2 := Option.some.inj e
    rw [← e2]
    exact ⟨_, rfl, r⟩
  | _, _, i + 1, _, .cons _ t, e => paired_left (i := i) t e
theorem row_at {F H : Hp} {ps : List Addr} {rows : List (List V)} {xss : List (List α)} {i : Int} {xs : List α} (hl : ps.length = rows.length) (hp : Paired (Paired (R.r F)) rows xss) (h : pat xss i = some xs) :
    ∃ k q row, ixN xss.length i = some k ∧ ps[k]? = some q ∧ rows[k]? = some row ∧ atI (ps.map V.ref) i = some (.ref q) ∧ Paired (R.r F) row xs := by
  obtain ⟨k, h1, h2⟩ := pat_ix h
  obtain ⟨row, h3, h4⟩ := Paired.at hp h2
  have hk : k < ps.length := by
    have := (List.getElem?_eq_some_iff.mp h3).1
    omega
  refine ⟨k, ps[k], row, h1, List.getElem?_eq_getElem hk, h3, ?_, h4⟩
  unfold atI
  rw [List.length_map, hl, Paired.len hp, h1]
  show (ps.map V.ref)[k]? = _
  rw [List.getElem?_map, List.getElem?_eq_getElem hk]
  rfl
theorem se_cell {i : Nat} {g : ρ → List (List α)} {fi fj : ρ → Option Int} (hg : Gt E i (sG R) g) (hi : SE ti E (sF jI) fi) (hj : SE tj E (sF jI) fj) : SE (tOp (rIxL K) (tOp (rIxL K) (tVar i) ti) tj) E (sF R) (fun γ => ob (fi γ) fun x => ob (fj γ) fun y => pcell (g γ) x y) := ⟨fun s0 hL hE e k => by
  obtain ⟨x, e1, e⟩ := ob_some e
  obtain ⟨y, e2, e⟩ := ob_some e
  obtain ⟨xs, e3, e4⟩ := ob_some e
  obtain ⟨v, L1, h1, h2, p, ps, rows, h3, h4, h5, h6, h7⟩ := hg hE
  subst h3 h6
  obtain ⟨kk, q, row, z1, z2, z3, z4, z5⟩ := row_at (H := (fun _ => none)) h5 h7 e3
  refine ⟨_, h1, ?_⟩
  refine hi s0 hL hE e1 fun w F1 H1 L1 s1 ⟨y1, r1⟩ => ?_
  subst y1
  refine ⟨p, ps.map V.ref, x, .ref q, rfl, r1, .inl (.inl (s1.fh _ _ (s1.f0 _ _ h4))), z4, ?_⟩
  refine hj s1.fh (hL.mono s1.hh) (E.m s1.f0 hE) e2 fun w2 F2 H2 L2 s2 ⟨y2, r2⟩ => ?_
  subst y2
  obtain ⟨c, c1, c2⟩ := pat_paired z5 e4
  have hq := hL _ (h2 _ (List.mem_of_getElem? (rowsL_get z2 z3)))
  exact ⟨q, row, y, c, rfl, r2, .inl (.inl (s2.hh _ _ (s1.hh _ _ hq))), c1, k _ _ _ [] (s1.tr s2) ⟨rfl, R.m (s1.f0.trans s2.f0) c2⟩⟩⟩
/-- own rows are changed -/
structure UpG (E : En ρ) (i : Nat) (R : Rp α) (g : ρ → List (List α)) (up : List (List α) → ρ → ρ) : Prop where
  run : ∀ {σ : L2.St} {F : Hp} {L : List (Addr × HO)} {γ : ρ}, E.r σ F L γ → ∃ (p : Addr) (ps : List Addr) (rows : List (List V)) (off : Nat), σ[i]? = some (some (.ref p)) ∧ F p = some (.lst (ps.map V.ref)) ∧ ps.length = rows.length ∧ Paired (Paired (R.r F)) rows (g γ) ∧
    (∀ (k : Nat) (q : Addr) (row : List V), ps[k]? = some q → rows[k]? = some row → L[off + k]? = some (q, .lst row)) ∧
    ∀ (F' : Hp) (k : Nat) (q : Addr) (row' : List V) (xs' : List α), Same F F' → ps[k]? = some q → Paired (R.r F') row' xs' → E.r σ F' (L.set (off + k) (q, .lst row')) (up ((g γ).set k xs') γ)
theorem v0 : UpG (eC (sG R) E) 0 R (fun γ => γ.1) (fun xs γ => (xs, γ.2)) := ⟨fun ⟨v', σ', La, L2, e1, e2, ⟨p, ps, rows, h1, h2, h3, h4, h5⟩, t⟩ => by
  subst e1 e2 h1 h4
  refine ⟨p, ps, rows, 0, rfl, h2, h3, h5, fun k q row a b => ?_, fun F' k q row' xs' sF a b => ?_⟩
  · rw [Nat.zero_add, List.getElem?_append_left (by rw [rowsL_len h3]; exact (List.getElem?_eq_some_iff.mp b).1)]
    exact rowsL_get a b
  · have hk : k < (rowsL ps rows).length := by rw [rowsL_len h3, ← h3]; exact (List.getElem?_eq_some_iff.mp a).1
    rw [Nat.zero_add, List.set_append_left _ _ hk, rowsL_set a]
    exact ⟨.ref p, σ', _, L2, rfl, rfl, ⟨p, ps, rows.set k row', rfl, sF _ _ h2, by rw [List.length_set, h3], rfl, Paired.upd b k (Paired.mono (fun _ _ q => Paired.mono (fun _ _ q => R.m sF q) q) h5)⟩, E.m sF t⟩⟩
theorem vU {i : Nat} {g : ρ → List (List α)} {up : List (List α) → ρ → ρ} (h : UpG E i R g up) : UpG (eU E) (i + 1) R g up := ⟨fun ⟨o, σ', e, t⟩ => by
  subst e
  obtain ⟨p, ps, rows, off, h1, h2, h3, h4, h5, h6⟩ := h.run t
  exact ⟨p, ps, rows, off, h1, h2, h3, h4, h5, fun F' k q row' xs' sF a b => ⟨o, σ', rfl, h6 F' k q row' xs' sF a b⟩⟩⟩
theorem vS {i : Nat} {g : ρ → List (List α)} {up : List (List α) → ρ → ρ} (h : UpG E i R g up) : UpG (eC s' E) (i + 1) R (fun γ => g γ.2) (fun xs γ => (γ.1, up xs γ.2)) := ⟨fun ⟨v', σ', La, L2, e1, e2, q0, t⟩ => by
  subst e1 e2
  obtain ⟨p, ps, rows, off, h1, h2, h3, h4, h5, h6⟩ := h.run t
  refine ⟨p, ps, rows, La.length + off, h1, h2, h3, h4, fun k q row a b => ?_, fun F' k q row' xs' sF a b => ?_⟩
  · rw [List.getElem?_append_right (by omega), show La.length + off + k - La.length = off + k by omega]
    exact h5 k q row a b
  · rw [List.set_append_right _ _ (by omega), show La.length + off + k - La.length = off + k by omega]
    exact ⟨v', σ', La, _, rfl, rfl, s'.m sF q0, h6 F' k q row' xs' sF a b⟩⟩
theorem ss_cell {i : Nat} {g : ρ → List (List α)} {up : List (List α) → ρ → ρ} {fe : ρ → Option α} {fi fj : ρ → Option Int} {m : ρ → Option (Res ρ' κ β)} (hu' : UpG E i R g up) (he : SE te E (sF R) fe) (hi : SE ti E (sF jI) fi) (hj : SE tj E (sF jI) fj) (hu : SS u E E' Ec s m) :
    SS (tSeq (tAsg te (gSub (tOp (rIxL K) (tVar i) ti) tj rSetL)) u) E E' Ec s (fun γ => ob (fe γ) fun y => ob (fi γ) fun a => ob (fj γ) fun b => ob (pcset (g γ) a b y) fun ys => m (up ys γ)) := ⟨fun O hE e fin => by
  obtain ⟨x, e1, e⟩ := ob_some e
  obtain ⟨a, e2, e⟩ := ob_some e
  obtain ⟨b, e3, e⟩ := ob_some e
  obtain ⟨yss, e4, e⟩ := ob_some e
  obtain ⟨xs, e5, e6⟩ := ob_some e4
  obtain ⟨ys, e7, e8⟩ := ob_some e6
  refine he O.fh (Held.of O) hE e1 fun v F1 H1 L1 s1 ⟨z1, r1⟩ => ?_
  subst z1
  have O1 := Own.on O s1
  rw [List.nil_append] at O1
  obtain ⟨p, ps, rows, off, h1, h2, h3, h4, h5, h6⟩ := hu'.run (E.m s1.f0 hE)
  obtain ⟨kk, q, row, y1, y2, y3, y4, y5⟩ := row_at (H := fun _ => none) h3 h4 e5
  refine ⟨_, h1, ?_⟩
  refine hi O1.fh (Held.of O1) (E.m s1.f0 hE) e2 fun w F2 H2 L2 s2 ⟨z2, r2⟩ => ?_
  subst z2
  have O2 := Own.on O1 s2
  rw [List.nil_append] at O2
  refine ⟨p, ps.map V.ref, a, .ref q, rfl, r2, .inl (.inl (O2.fh _ _ (s2.f0 _ _ h2))), y4, ?_⟩
  refine hj O2.fh (Held.of O2) (E.m (s1.f0.trans s2.f0) hE) e3 fun w2 F3 H3 L3 s3 ⟨z3, r3⟩ => ?_
  subst z3
  have O3 := Own.on O2 s3
  rw [List.nil_append] at O3
  unfold pset at e7 e8
  rw [y1] at e8
  cases e8
  cases hj : ixN xs.length b with
  | none => rw [hj] at e7; cases e7
  | some n =>
    rw [hj] at e7
    cases e7
    have s23 := s2.f0.trans s3.f0
    have g5 := h5 kk q row y2 y3
    refine ⟨q, row, b, n, rfl, r3, O3.at_ _ g5, by rw [Paired.len y5]; exact hj, ?_⟩
    exact hu.run (O3.set _ g5 _) (h6 F3 kk q _ _ s23 y2 (Paired.upd (R.m s23 r1) n (Paired.mono (fun _ _ q => R.m s23 q) y5))) e (fin.mo (s1.f0.trans s23))⟩
/-- the rows are frozen -/
theorem ice_rows {F0 H0 H : Hp} {Z : List (Addr × HO)} : ∀ {ps : List Addr} {rows : List (List V)} {F : Hp}, ps.length = rows.length → Own F0 H0 F H (rowsL ps rows ++ Z) [] → ∃ F', Same F F' ∧ Own F0 H0 F' H Z [] ∧ Paired (fun v r => ∃ q, v = V.ref q ∧ F' q = some (.lst r)) (ps.map V.ref) rows
  | [], [], F, _, O => ⟨F, Same.refl _, O, .nil⟩
  | p :: ps, r :: rs, F, h, O => by
    have O1 := (show Own F0 H0 F H ((p, HO.lst r) :: (rowsL ps rs ++ Z)) [] from O)
    have sF : Same F (upd F p (.lst r)) := fun b u e => by rw [upd_ne (ne_of_none e ((O1.own (p, .lst r) List.mem_cons_self)).1)]; exact e
    obtain ⟨F', s1, O2, h2⟩ := ice_rows (Nat.succ.inj h) (O1.freeze.chunks (C' := []) trivial)
    exact ⟨F', sF.trans s1, O2, .cons ⟨p, rfl, s1 _ _ upd_same⟩ h2⟩
  | [], _ :: _, _, h, _ => nomatch h
  | _ :: _, [], _, h, _ => nomatch h
theorem Paired.trans2 {A : α → β → Prop} {C : β → δ → Prop} {G : α → δ → Prop} (h : ∀ a b c, A a b → C b c → G a c) : ∀ {xs : List α} {ys : List β} {zs : List δ}, Paired A xs ys → Paired C ys zs → Paired G xs zs
  | _, _, _, .nil, .nil => .nil
  | _, _, _, .cons r t, .cons r' t' => .cons (h _ _ _ r r') (Paired.trans2 h t t')
theorem cG {c : ρ → ρ'} (h : Co E E' c) : Co (eC (sG R) E) (eC (sF (jL (jL R))) E') (fun γ => (γ.1, c γ.2)) := ⟨fun {_ _ _ F _ _ Z _} O ⟨v, σ', L1, L2, e1, e2, ⟨p, ps, rows, h1, h2, h3, h4, h5⟩, t⟩ => by
  subst e1 e2 h1 h4
  rw [List.append_assoc] at O
  obtain ⟨F1, s1, O1, q1⟩ := ice_rows h3 O
  obtain ⟨F', L', O', sF, t'⟩ := h O1 (E.m s1 t)
  have s2 := s1.trans sF
  refine ⟨F', L', O', s2, _, σ', [], L', rfl, rfl, ⟨rfl, p, ps.map V.ref, rfl, s2 _ _ h2, ?_⟩, t'⟩
  exact Paired.trans2 (fun a b c ⟨q, e, f⟩ g => ⟨q, b, e, sF _ _ f, Paired.mono (fun _ _ z => R.m s2 z) g⟩) q1 h5⟩
end
end Mi

namespace Mi
open PySem PyProof.Rows L2 Fw
/-! ### what a mirror tells -/
section
variable {α β δ ρ ρ' κ κ' : Type}
def W (x : Option α) (Q : α → Prop) : Prop := ∃ y, x = some y ∧ Q y
theorem W_some {y : α} {Q : α → Prop} : W (some y) Q = Q y := propext ⟨fun ⟨_, e, q⟩ => by cases e; exact q, fun q => ⟨y, rfl, q⟩⟩
theorem W_none {Q : α → Prop} : W none Q = False := propext ⟨fun ⟨_, e, _⟩ => (nomatch e), False.elim⟩
theorem W_ob {x : Option α} {f : α → Option β} {Q : β → Prop} : W (ob x f) Q = W x fun y => W (f y) Q := propext ⟨fun ⟨z, e, q⟩ => by
  obtain ⟨y, e1, e2⟩ := ob_some e
  exact ⟨y, e1, z, e2, q⟩, fun ⟨y, e1, z, e2, q⟩ => ⟨z, by rw [e1]; exact e2, q⟩⟩
theorem W_bind {x : Option α} {f : α → Option β} {Q : β → Prop} : W (Option.bind x f) Q = W x fun y => W (f y) Q := W_ob
theorem W_pck {P : Prop} [Decidable P] {y : α} {Q : α → Prop} : W (pck P y) Q = (P ∧ Q y) := propext ⟨fun ⟨_, e, q⟩ => by
  obtain ⟨p, rfl⟩ := pck_some e
  exact ⟨p, q⟩, fun ⟨p, q⟩ => ⟨y, pck_of p, q⟩⟩
/-- of a way's end -/
def Rw (Q : Res ρ κ β → Prop) (f : ρ' → Option (Res ρ κ β)) : Res ρ' κ β → Prop
  | .nxt γ => W (f γ) Q
  | .ret b => Q (.ret b)
  | .cnt γ => Q (.cnt γ)
  | .brk γ => Q (.brk γ)
theorem Rw_nxt {Q : Res ρ κ β → Prop} {f : ρ' → Option (Res ρ κ β)} {γ : ρ'} : Rw Q f (.nxt γ) = W (f γ) Q := rfl
theorem Rw_ret {Q : Res ρ κ β → Prop} {f : ρ' → Option (Res ρ κ β)} {b : β} : Rw Q f (.ret b) = Q (.ret b) := rfl
theorem Rw_cnt {Q : Res ρ κ β → Prop} {f : ρ' → Option (Res ρ κ β)} {b : κ} : Rw Q f (.cnt b) = Q (.cnt b) := rfl
theorem W_rb {x : Option (Res ρ' κ β)} {f : ρ' → Option (Res ρ κ β)} {Q : Res ρ κ β → Prop} : W (rb x f) Q = W x (Rw Q f) := by
  unfold rb
  rw [W_ob]
  congr 1
  funext r
  cases r with
  | nxt γ => rfl
  | ret b => exact W_some
  | cnt γ => exact W_some
  | brk γ => exact W_some
def Rf (Q : β → Prop) : Res ρ κ β → Prop
  | .ret b => Q b
  | _ => False
theorem Rf_ret {Q : β → Prop} {b : β} : Rf (ρ := ρ) (κ := κ) Q (.ret b) = Q b := rfl
theorem Rf_nxt {Q : β → Prop} {γ : ρ} : Rf (κ := κ) Q (.nxt γ) = False := rfl
theorem W_fin {x : Option (Res ρ κ β)} {Q : β → Prop} : W (Mi.fin x) Q = W x (Rf Q) := by
  unfold Mi.fin
  rw [W_ob]
  congr 1
  funext r
  cases r with
  | ret b => exact W_some
  | nxt γ => exact W_none
  | cnt γ => exact W_none
  | brk γ => exact W_none
def RfN (Q : Unit → Prop) : Res ρ κ Unit → Prop
  | .ret b => Q b
  | .nxt _ => Q ()
  | _ => False
theorem RfN_ret {Q : Unit → Prop} {b : Unit} : RfN (ρ := ρ) (κ := κ) Q (.ret b) = Q b := rfl
theorem RfN_nxt {Q : Unit → Prop} {γ : ρ} : RfN (κ := κ) Q (.nxt γ) = Q () := rfl
theorem W_finN {x : Option (Res ρ κ Unit)} {Q : Unit → Prop} : W (Mi.finN x) Q = W x (RfN Q) := by
  unfold Mi.finN
  rw [W_ob]
  congr 1
  funext r
  cases r with
  | ret b => exact W_some
  | nxt γ => exact W_some
  | cnt γ => exact W_none
  | brk γ => exact W_none
theorem W_T {x y : Option α} {Q : α → Prop} : W (if true = true then x else y) Q = W x Q := by rw [if_pos rfl]
theorem W_F {x y : Option α} {Q : α → Prop} : W (if false = true then x else y) Q = W y Q := by rw [if_neg Bool.false_ne_true]
theorem W_ifD {c : Prop} [Decidable c] {x y : Option α} {Q : α → Prop} (h1 : c → W x Q) (h2 : ¬ c → W y Q) : W (if decide c = true then x else y) Q := by
  by_cases h : c
  · rw [if_pos (decide_eq_true h)]; exact h1 h
  · rw [if_neg (by rw [decide_eq_false h]; decide)]; exact h2 h
theorem W_ifN {c : Prop} [Decidable c] {x y : Option α} {Q : α → Prop} (h1 : ¬ c → W x Q) (h2 : c → W y Q) : W (if (!decide c) = true then x else y) Q := by
  by_cases h : c
  · rw [if_neg (by rw [decide_eq_true h]; decide)]; exact h2 h
  · rw [if_pos (by rw [decide_eq_false h]; rfl)]; exact h1 h
theorem W_ifB {c : Bool} {x y : Option α} {Q : α → Prop} (h1 : c = true → W x Q) (h2 : c = false → W y Q) : W (if c = true then x else y) Q := by
  cases c with
  | true => rw [if_pos rfl]; exact h1 rfl
  | false => rw [if_neg Bool.false_ne_true]; exact h2 rfl
theorem W.mono {x : Option α} {Q Q' : α → Prop} (h : W x Q) (k : ∀ y, Q y → Q' y) : W x Q' := let ⟨y, e, q⟩ := h; ⟨y, e, k y q⟩
theorem W.and {x : Option α} {Q Q' : α → Prop} (h : W x Q) (k : W x Q') : W x fun y => Q y ∧ Q' y := by
  obtain ⟨y, e, q⟩ := h
  obtain ⟨y', e', q'⟩ := k
  rw [e] at e'
  cases e'
  exact ⟨y, e, q, q'⟩
theorem W.eq {x : Option α} {y : α} (h : W x fun z => z = y) : x = some y := let ⟨_, e, q⟩ := h; q ▸ e
theorem W_of {x : Option α} {y : α} {Q : α → Prop} (e : x = some y) (q : Q y) : W x Q := ⟨y, e, q⟩
theorem W_ret {x : Option β} {Q : Res ρ κ β → Prop} : W (ob x fun r => some (.ret r)) Q = W x fun r => Q (.ret r) := by
  rw [W_ob]
  simp only [W_some]
/-! loops -/
theorem W_for {step : α → ρ → Option (Res ρ ρ β)} {xs : List α} {γ : ρ} {Q : Res ρ κ β → Prop} (I : Nat → ρ → Prop) (h0 : I 0 γ)
    (hs : ∀ i x γ, xs[i]? = some x → I i γ → W (step x γ) fun r => match r with | .nxt γ' => I (i + 1) γ' | .cnt γ' => I (i + 1) γ' | .brk γ' => Q (.nxt γ') | .ret b => Q (.ret b))
    (hd : ∀ γ, I xs.length γ → Q (.nxt γ)) : W (forR step xs γ) Q := by
  have key : ∀ k i γ, xs.length - i = k → i ≤ xs.length → I i γ → W (forR (κ := κ) step (xs.drop i) γ) Q := by
    intro k
    induction k with
    | zero =>
      intro i γ hk hi h
      have : i = xs.length := by omega
      subst this
      rw [List.drop_length]
      exact ⟨_, rfl, hd γ h⟩
    | succ k ih =>
      intro i γ hk hi h
      have hlt : i < xs.length := by omega
      rw [List.drop_eq_getElem_cons hlt]
      obtain ⟨r, e, q⟩ := hs i _ γ (List.getElem?_eq_getElem hlt) h
      show W (ob (step xs[i] γ) _) Q
      rw [e]
      cases r with
      | nxt γ' => exact ih (i + 1) γ' (by omega) hlt q
      | cnt γ' => exact ih (i + 1) γ' (by omega) hlt q
      | brk γ' => exact ⟨_, rfl, q⟩
      | ret b => exact ⟨_, rfl, q⟩
  have := key xs.length 0 γ (by omega) (Nat.zero_le _) h0
  rwa [List.drop_zero] at this
theorem W_while {c : ρ → Option Bool} {step : ρ → Option (Res ρ ρ β)} {γ : ρ} {Q : Res ρ κ β → Prop} (I : Nat → ρ → Prop) (m : Nat) (h0 : I m γ)
    (hs : ∀ m γ, I m γ → W (c γ) fun b => if b = true then W (step γ) fun r => match r with | .nxt γ' => ∃ m', m' < m ∧ I m' γ' | .cnt γ' => ∃ m', m' < m ∧ I m' γ' | .brk γ' => Q (.nxt γ') | .ret b => Q (.ret b) else Q (.nxt γ)) : W (whileR c step γ) Q := by
  have key : ∀ m γ, I m γ → ∃ n r, whileN (κ := κ) c step n γ = some r ∧ Q r := by
    intro m
    induction m using Nat.strongRecOn with
    | ind m ih =>
      intro γ h
      obtain ⟨b, e, q⟩ := hs m γ h
      cases b with
      | false =>
        rw [if_neg Bool.false_ne_true] at q
        refine ⟨1, .nxt γ, ?_, q⟩
        rw [whileN, e]
        rfl
      | true =>
        rw [if_pos rfl] at q
        obtain ⟨r, e2, q2⟩ := q
        cases r with
        | nxt γ' =>
          obtain ⟨m', hm, h'⟩ := q2
          obtain ⟨n, r, e3, q3⟩ := ih m' hm γ' h'
          refine ⟨n + 1, r, ?_, q3⟩
          rw [whileN, e]
          show (ob (step γ) _) = _
          rw [e2]
          exact e3
        | cnt γ' =>
          obtain ⟨m', hm, h'⟩ := q2
          obtain ⟨n, r, e3, q3⟩ := ih m' hm γ' h'
          refine ⟨n + 1, r, ?_, q3⟩
          rw [whileN, e]
          show (ob (step γ) _) = _
          rw [e2]
          exact e3
        | brk γ' =>
          refine ⟨1, .nxt γ', ?_, q2⟩
          rw [whileN, e]
          show (ob (step γ) _) = _
          rw [e2]
          rfl
        | ret b =>
          refine ⟨1, .ret b, ?_, q2⟩
          rw [whileN, e]
          show (ob (step γ) _) = _
          rw [e2]
          rfl
  obtain ⟨n, r, e, q⟩ := key m γ h0
  exact ⟨r, whileR_of e, q⟩
/-! comprehensions -/
theorem W_lcM {f : α → Option β} {xs : List α} {Q : List β → Prop} (P : α → β → Prop) (h : ∀ x ∈ xs, W (f x) (P x)) (k : ∀ ys, Paired P xs ys → Q ys) : W (lcM f xs) Q := by
  have key : ∀ xs : List α, (∀ x ∈ xs, W (f x) (P x)) → ∃ ys, lcM f xs = some ys ∧ Paired P xs ys := by
    intro xs
    induction xs with
    | nil => intro _; exact ⟨[], rfl, .nil⟩
    | cons x xs ih =>
      intro h
      obtain ⟨y, e, q⟩ := h x List.mem_cons_self
      obtain ⟨ys, e2, q2⟩ := ih fun z hz => h z (List.mem_cons_of_mem _ hz)
      refine ⟨y :: ys, ?_, .cons q q2⟩
      show ob (f x) _ = _
      rw [e]
      show ob (lcM f xs) _ = _
      rw [e2]
      rfl
  obtain ⟨ys, e, q⟩ := key xs h
  exact ⟨ys, e, k ys q⟩
theorem lcM_map {f : α → Option β} {g : α → β} : ∀ {xs : List α}, (∀ x ∈ xs, f x = some (g x)) → lcM f xs = some (xs.map g)
  | [], _ => rfl
  | x :: xs, h => by
    show ob (f x) _ = _
    rw [h x List.mem_cons_self]
    show ob (lcM f xs) _ = _
    rw [lcM_map fun z hz => h z (List.mem_cons_of_mem _ hz)]
    rfl
theorem lcF_map {p : α → Option Bool} {q : α → Bool} {f : α → Option β} {g : α → β} : ∀ {xs : List α}, (∀ x ∈ xs, p x = some (q x)) → (∀ x ∈ xs, q x = true → f x = some (g x)) → lcF p f xs = some ((xs.filter q).map g)
  | [], _, _ => rfl
  | x :: xs, h, k => by
    show ob (p x) _ = _
    rw [h x List.mem_cons_self]
    have ih := lcF_map (xs := xs) (fun z hz => h z (List.mem_cons_of_mem _ hz)) (fun z hz => k z (List.mem_cons_of_mem _ hz))
    show (if q x = true then _ else _) = _
    cases hq : q x with
    | true =>
      rw [if_pos rfl, k x List.mem_cons_self hq, List.filter_cons_of_pos hq, List.map_cons]
      show ob (lcF p f xs) _ = _
      rw [ih]
      rfl
    | false =>
      rw [if_neg Bool.false_ne_true, ih, List.filter_cons_of_neg (by rw [hq]; exact Bool.false_ne_true)]
theorem W_lcMap {f : α → Option β} {g : α → β} {xs : List α} {Q : List β → Prop} (h : ∀ x ∈ xs, f x = some (g x)) (k : Q (xs.map g)) : W (lcM f xs) Q := ⟨_, lcM_map h, k⟩
/-! places -/
theorem pat_nat {xs : List α} {k : Nat} {x : α} (h : xs[k]? = some x) : pat xs (k : Int) = some x := by
  have hk := (List.getElem?_eq_some_iff.mp h).1
  unfold pat L2.atI
  rw [ixN_pos (i := (k : Int)) ⟨by omega, by omega⟩]
  exact h
theorem W_pat {xs : List α} {i : Int} {Q : α → Prop} (h : 0 ≤ i ∧ i < xs.length) (k : ∀ x, xs[i.toNat]? = some x → Q x) : W (pat xs i) Q := by
  have hk : i.toNat < xs.length := by omega
  refine ⟨xs[i.toNat], ?_, k _ (List.getElem?_eq_getElem hk)⟩
  have e : ((i.toNat : Nat) : Int) = i := by omega
  have := pat_nat (xs := xs) (k := i.toNat) (List.getElem?_eq_getElem hk)
  rwa [e] at this
theorem W_patN {xs : List α} {i : Nat} {x : α} {Q : α → Prop} (h : xs[i]? = some x) (q : Q x) : W (pat xs (i : Int)) Q := ⟨x, pat_nat h, q⟩
theorem W_pixS {xs : List Nat} {i : Int} {Q : List Nat → Prop} (hz : xs.length ≤ sz) (h : 0 ≤ i ∧ i < xs.length) (k : ∀ x, xs[i.toNat]? = some x → Q [x]) : W (pixS xs i) Q := by
  unfold pixS
  rw [W_ob, W_pck]
  refine ⟨hz, ?_⟩
  obtain ⟨x, e, q⟩ := W_pat (Q := fun x => Q [x]) h k
  rw [e]
  exact ⟨[x], rfl, q⟩
theorem pset_nat {xs : List α} {k : Nat} {x : α} (h : k < xs.length) : pset xs (k : Int) x = some (xs.set k x) := by
  unfold pset
  rw [ixN_pos (i := (k : Int)) ⟨by omega, by omega⟩]
  rfl
theorem W_pset {xs : List α} {i : Int} {x : α} {Q : List α → Prop} (h : 0 ≤ i ∧ i < xs.length) (q : Q (xs.set i.toNat x)) : W (pset xs i x) Q := by
  unfold pset
  rw [ixN_pos h]
  exact ⟨_, rfl, q⟩
theorem W_pget {xs : List α} {i : Int} {Q : α → Prop} (h : 0 ≤ i ∧ i < xs.length) (k : ∀ x, xs[i.toNat]? = some x → Q x) : W (pget xs i) Q := by
  unfold pget
  rw [if_pos h.1]
  exact ⟨_, List.getElem?_eq_getElem (by omega), k _ (List.getElem?_eq_getElem (by omega))⟩
theorem prange_len (n : Int) : (prange n).length = n.toNat := by unfold prange; rw [List.length_map, List.length_range]
theorem prange_get {n : Int} {i : Nat} {x : Int} (h : (prange n)[i]? = some x) : x = (i : Int) ∧ (i : Int) < n := by
  unfold prange at h
  rw [List.getElem?_map] at h
  by_cases hi : i < n.toNat
  · rw [List.getElem?_range hi] at h
    cases h
    exact ⟨rfl, by omega⟩
  · rw [List.getElem?_eq_none (by rw [List.length_range]; omega)] at h
    cases h
theorem prange2_len (a b : Int) : (prange2 a b).length = (b - a).toNat := by unfold prange2; rw [List.length_map, List.length_range]
theorem prange2_get {a b : Int} {i : Nat} {x : Int} (h : (prange2 a b)[i]? = some x) : x = a + (i : Int) ∧ a + (i : Int) < b := by
  unfold prange2 at h
  rw [List.getElem?_map] at h
  by_cases hi : i < (b - a).toNat
  · rw [List.getElem?_range hi] at h
    cases h
    exact ⟨rfl, by omega⟩
  · rw [List.getElem?_eq_none (by rw [List.length_range]; omega)] at h
    cases h
theorem prangeC_len (a c : Int) (n : Nat) : (prangeC a c n).length = n := by unfold prangeC; rw [List.length_map, List.length_range]
theorem prangeC_get {a c : Int} {n i : Nat} {x : Int} (h : (prangeC a c n)[i]? = some x) : x = a + (i : Int) * c ∧ i < n := by
  unfold prangeC at h
  rw [List.getElem?_map] at h
  by_cases hi : i < n
  · rw [List.getElem?_range hi] at h
    cases h
    exact ⟨rfl, hi⟩
  · rw [List.getElem?_eq_none (by rw [List.length_range]; omega)] at h
    cases h
theorem sing_get {l : List Nat} {i : Nat} {x : List Nat} (h : (l.map fun c => [c])[i]? = some x) : ∃ c, l[i]? = some c ∧ x = [c] := by
  rw [List.getElem?_map] at h
  cases e : l[i]? with
  | none => rw [e] at h; cases h
  | some c => rw [e] at h; exact ⟨c, rfl, (Option.some.inj h).symm⟩
end
/-! one step of a reading -/
local macro_rules | `(tactic| walk_at "m") => `(tactic| simp only [W_some, W_none, W_ob, W_pck, W_rb, W_fin, W_finN, W_T, W_F, Rw_nxt, Rw_ret, Rw_cnt, Rf_ret, Rf_nxt, RfN_ret, RfN_nxt, decide_true, decide_false, Bool.not_true, Bool.not_false])
end Mi

namespace Mi
open PySem PyProof.Rows L2 Fw
section
variable {α β : Type}
theorem pcut_nat (l : List α) (a b : Nat) : pcut l (some (a : Int)) (some (b : Int)) = (l.drop a).take (b - a) := by
  unfold pcut
  rw [HT.sIx_nat, HT.sIx_nat]
  by_cases h : a ≤ l.length
  · rw [Nat.min_eq_left h]
    by_cases h2 : b ≤ l.length
    · rw [Nat.min_eq_left h2]
    · rw [Nat.min_eq_right (show l.length ≤ b by omega), List.take_of_length_le (by rw [List.length_drop]; exact Nat.le_refl _), List.take_of_length_le (by rw [List.length_drop]; omega)]
  · rw [Nat.min_eq_right (show l.length ≤ a by omega), List.drop_length, List.drop_eq_nil_of_le (show l.length ≤ a by omega)]
    simp
theorem pcut_to (l : List α) (b : Nat) : pcut l none (some (b : Int)) = l.take b := by
  unfold pcut
  rw [HT.sIx_nat, HT.sIx_none]
  show List.take (min b l.length - 0) (l.drop 0) = _
  rw [Nat.sub_zero, List.drop_zero]
  by_cases h : b ≤ l.length
  · rw [Nat.min_eq_left h]
  · rw [Nat.min_eq_right (show l.length ≤ b by omega), List.take_length, List.take_of_length_le (show l.length ≤ b by omega)]
theorem pcut_from (l : List α) (a : Nat) : pcut l (some (a : Int)) none = l.drop a := by
  unfold pcut
  rw [HT.sIx_nat, HT.sIx_none]
  by_cases h : a ≤ l.length
  · rw [Nat.min_eq_left h, List.take_of_length_le (by rw [List.length_drop]; exact Nat.le_refl _)]
  · rw [Nat.min_eq_right (show l.length ≤ a by omega), List.drop_length, List.drop_eq_nil_of_le (show l.length ≤ a by omega)]
    simp
theorem pcut_mem {l : List α} {lo hi : Option Int} {x : α} (h : x ∈ pcut l lo hi) : x ∈ l := List.mem_of_mem_drop (List.mem_of_mem_take h)
theorem pcut_len (l : List α) (lo hi : Option Int) : (pcut l lo hi).length ≤ l.length := by
  unfold pcut
  rw [List.length_take, List.length_drop]
  omega
theorem pixS_nat {l : List Nat} {k c : Nat} (h : l[k]? = some c) (hz : l.length ≤ sz) : pixS l (k : Int) = some [c] := by
  unfold pixS
  rw [pck_of hz]
  show (pat l (k : Int)).map _ = _
  rw [pat_nat h]
  rfl
/-- a text of letters -/
def Ltr (l : List Nat) : Prop := ∀ c ∈ l, c ∈ ([65, 67, 71, 84, 78] : List Nat)
theorem Ltr.app {l m : List Nat} (h : Ltr l) (k : Ltr m) : Ltr (l ++ m) := fun c hc => (List.mem_append.mp hc).elim (h c) (k c)
theorem Ltr.sub {l m : List Nat} (h : Ltr l) (k : ∀ c ∈ m, c ∈ l) : Ltr m := fun c hc => h c (k c hc)
/-- the opposite letter -/
def opp (c : Nat) : Nat := ([84, 71, 67, 65, 78] : List Nat).getD (([65, 67, 71, 84, 78] : List Nat).idxOf c) 0
def trn (l : List Nat) : List Nat := (l.map opp).reverse
theorem trn_len (l : List Nat) : (trn l).length = l.length := by simp [trn]
theorem opp_ltr : ∀ c ∈ ([65, 67, 71, 84, 78] : List Nat), opp c ∈ ([65, 67, 71, 84, 78] : List Nat) := by decide
theorem opp_opp : ∀ c ∈ ([65, 67, 71, 84, 78] : List Nat), opp (opp c) = c := by decide
theorem trn_ltr {l : List Nat} (h : Ltr l) : Ltr (trn l) := fun c hc => by
  obtain ⟨d, hd, rfl⟩ := List.mem_map.mp (List.mem_reverse.mp hc)
  exact opp_ltr d (h d hd)
theorem trn_trn {l : List Nat} (h : Ltr l) : trn (trn l) = l := by
  unfold trn
  rw [List.map_reverse, List.reverse_reverse, List.map_map]
  refine (List.map_congr_left fun c hc => ?_).trans (List.map_id l)
  exact opp_opp c (h c hc)
/-- letters agree -/
def agr (a b : Nat) : Bool := decide (a = b) && !decide (a = 78)
theorem sing_eq (a b : Nat) : decide (([a] : List Nat) = [b]) = decide (a = b) := decide_eq_decide.mpr ⟨fun h => (List.cons.inj h).1, fun h => by rw [h]⟩
def pick3 {τ : Type} (k : Nat) (x y z : τ) : τ := match k with
  | 0 => x
  | 1 => y
  | _ => z
/-- a row of n numbers -/
def rowf (n : Nat) (f : Nat → Int) : List Int := (List.range n).map f
theorem rowf_len (n : Nat) (f : Nat → Int) : (rowf n f).length = n := by simp [rowf]
theorem rowf_get {n j : Nat} {f : Nat → Int} (h : j < n) : (rowf n f)[j]? = some (f j) := by
  unfold rowf
  rw [List.getElem?_map, List.getElem?_range h]
  rfl
theorem pat_rowf {n j : Nat} {f : Nat → Int} (h : j < n) : pat (rowf n f) (j : Int) = some (f j) := pat_nat (rowf_get h)
theorem W_rowf {n j : Nat} {f : Nat → Int} {Q : Int → Prop} (h : j < n) (q : Q (f j)) : W (pat (rowf n f) (j : Int)) Q := ⟨_, pat_rowf h, q⟩
def upd1 (f : Nat → Int) (j : Nat) (v : Int) : Nat → Int := fun k => if k = j then v else f k
theorem upd1_same (f : Nat → Int) (j : Nat) (v : Int) : upd1 f j v j = v := if_pos rfl
theorem upd1_ne {f : Nat → Int} {j k : Nat} {v : Int} (h : k ≠ j) : upd1 f j v k = f k := if_neg h
theorem pset_rowf {n j : Nat} {f : Nat → Int} {v : Int} (h : j < n) : pset (rowf n f) (j : Int) v = some (rowf n (upd1 f j v)) := by
  rw [pset_nat (by rw [rowf_len]; exact h)]
  congr 1
  refine List.ext_getElem? fun k => ?_
  by_cases hk : k < n
  · rw [rowf_get hk]
    by_cases e : j = k
    · subst e
      rw [List.getElem?_set_self (by rw [rowf_len]; exact h), upd1_same]
    · rw [List.getElem?_set_ne e, rowf_get hk, upd1_ne (by omega)]
  · rw [List.getElem?_eq_none (by rw [List.length_set, rowf_len]; omega), List.getElem?_eq_none (by rw [rowf_len]; omega)]
theorem W_rset {n j : Nat} {f : Nat → Int} {v : Int} {Q : List Int → Prop} (h : j < n) (q : Q (rowf n (upd1 f j v))) : W (pset (rowf n f) (j : Int) v) Q := ⟨_, pset_rowf h, q⟩
theorem prep_row (c : Int) (k : Nat) : prep [c] (k : Int) = rowf k fun _ => c := by
  unfold prep rowf
  rw [Int.toNat_natCast]
  induction k with
  | zero => rfl
  | succ k ih => rw [List.replicate_succ', List.flatten_append, ih, List.range_succ, List.map_append]; rfl
theorem W_Tr {x y : Option α} {Q : α → Prop} : W (if True then x else y) Q = W x Q := by rw [if_pos trivial]
theorem W_Fa {x y : Option α} {Q : α → Prop} : W (if False then x else y) Q = W y Q := by rw [if_neg id]
theorem pidx_one (l : List Nat) (c : Nat) : pidx l [c] = pck (c ∈ l) (l.idxOf c : Int) := rfl
theorem pinS_one (l : List Nat) (c : Nat) : pinS [c] l = some (decide (c ∈ l)) := rfl
theorem pninS_one (l : List Nat) (c : Nat) : pninS [c] l = some (!decide (c ∈ l)) := rfl
/-! grids -/
def grid (n e : Nat) (f : Nat → Nat → Int) : List (List Int) := (List.range n).map fun i => (List.range e).map fun j => f i j
theorem grid_len (n e : Nat) (f : Nat → Nat → Int) : (grid n e f).length = n := by simp [grid]
theorem grid_row {n e i : Nat} {f : Nat → Nat → Int} (h : i < n) : (grid n e f)[i]? = some ((List.range e).map fun j => f i j) := by
  unfold grid
  rw [List.getElem?_map, List.getElem?_range h]
  rfl
theorem rowi_get {e i j : Nat} {f : Nat → Nat → Int} (h : j < e) : ((List.range e).map fun j => f i j)[j]? = some (f i j) := by
  rw [List.getElem?_map, List.getElem?_range h]
  rfl
theorem pcell_grid {n e i j : Nat} {f : Nat → Nat → Int} (h : i < n) (k : j < e) : pcell (grid n e f) (i : Int) (j : Int) = some (f i j) := by
  unfold pcell
  rw [pat_nat (grid_row h)]
  exact pat_nat (rowi_get k)
theorem rowi_set {e i j : Nat} {f : Nat → Nat → Int} {v : Int} : ((List.range e).map fun j => f i j).set j v = (List.range e).map fun j' => upd2 f i j v i j' := by
  refine List.ext_getElem? fun k => ?_
  by_cases hk : k < e
  · by_cases e2 : j = k
    · subst e2
      rw [List.getElem?_set_self (by simp; exact hk), List.getElem?_map, List.getElem?_range hk]
      show _ = some (upd2 f i j v i j)
      rw [upd2_same]
    · rw [List.getElem?_set_ne e2, List.getElem?_map, List.getElem?_map, List.getElem?_range hk]
      show some (f i k) = some (upd2 f i j v i k)
      rw [upd2_ne (by omega)]
  · rw [List.getElem?_eq_none (by simp; omega), List.getElem?_eq_none (by simp; omega)]
theorem pcset_grid {n e i j : Nat} {f : Nat → Nat → Int} {v : Int} (h : i < n) (k : j < e) : pcset (grid n e f) (i : Int) (j : Int) v = some (grid n e (upd2 f i j v)) := by
  unfold pcset
  rw [pat_nat (grid_row h)]
  show ob (pset _ _ _) _ = _
  rw [pset_nat (by simp; exact k)]
  show pset _ _ _ = _
  rw [pset_nat (by rw [grid_len]; exact h), rowi_set]
  congr 1
  refine List.ext_getElem? fun a => ?_
  by_cases ha : a < n
  · rw [grid_row ha]
    by_cases e2 : i = a
    · subst e2
      rw [List.getElem?_set_self (by rw [grid_len]; exact h)]
    · rw [List.getElem?_set_ne e2, grid_row ha]
      congr 1
      refine List.map_congr_left fun b _ => ?_
      rw [upd2_ne (by omega)]
  · rw [List.getElem?_eq_none (by rw [List.length_set, grid_len]; omega), List.getElem?_eq_none (by rw [grid_len]; omega)]
theorem W_cell {n e i j : Nat} {f : Nat → Nat → Int} {Q : Int → Prop} (h : i < n) (k : j < e) (q : Q (f i j)) : W (pcell (grid n e f) (i : Int) (j : Int)) Q := ⟨_, pcell_grid h k, q⟩
theorem W_cset {n e i j : Nat} {f : Nat → Nat → Int} {v : Int} {Q : List (List Int) → Prop} (h : i < n) (k : j < e) (q : Q (grid n e (upd2 f i j v))) : W (pcset (grid n e f) (i : Int) (j : Int) v) Q := ⟨_, pcset_grid h k, q⟩
theorem joinN_nil' (ys : List (List Nat)) : joinN [] ys = ys.flatten := joinN_nil ys
theorem Paired.get {A : α → β → Prop} : ∀ {xs : List α} {ys : List β} {i : Nat} {x : α}, Paired A xs ys → xs[i]? = some x → ∃ y, ys[i]? = some y ∧ A x y := paired_left
end
end Mi

namespace Mi
open PySem PySem.Spec PyProof.Rows L2 Fw
section
variable {α β δ : Type} {A : Rp α} {K : PySem.W.Frag}
/-- a list of three as a tuple -/
def ptup3 {τ : Type} (xs : List τ) : Option (τ × τ × τ) := match xs with
  | [a, b, c] => some (a, b, c)
  | _ => none
theorem sc_tup3 : SC (fun xs H Q => ∃ p ys, xs = [.ref p] ∧ ((SqL K H p ys ∧ ∀ l, H l = none → Q (.ref l) (upd H l (.tup ys))) ∨ (SqT K H p ys ∧ Q (.ref p) H))) (aC (jL A) aN) (sF (jT (yC A (yC A (y1 A))))) (fun x => ptup3 x.1) := ⟨fun {F H vs a c Q} s0 ⟨v, r, e1, ⟨p, us, e3, h, q⟩, e2⟩ e k => by
  subst e1 e2 e3
  obtain ⟨xs, u⟩ := a
  match xs, q, e with
  | [x, y, z], q, e =>
    cases e
    cases q with
    | @cons v1 _ _ _ r1 q => cases q with
      | @cons v2 _ _ _ r2 q => cases q with
        | @cons v3 _ _ _ r3 q => cases q with
          | nil =>
            refine ⟨p, _, rfl, .inl ⟨.inl (.inl (s0 _ _ h)), fun l nl => ?_⟩⟩
            have s3 := (Step.nil s0).ice nl (.tup [v1, v2, v3])
            exact k _ _ _ [] (s3.chunks trivial) ⟨rfl, l, _, rfl, upd_same, _, _, rfl, A.m s3.f0 r1, _, _, rfl, A.m s3.f0 r2, _, rfl, A.m s3.f0 r3⟩⟩
end
section
variable {ρ ρ'' κ α β : Type} {E : En ρ} {E1 : En ρ''} {Ec : En κ} {A : Rp α} {s : RRt β}
theorem ss_forN {wi : TI} {g : TG} {is : List Nat} {tb : TS} {fi : ρ → Option (List α)} {p : α → ρ → ρ''} {mb : ρ'' → Option (Res ρ ρ β)} {f : α → ρ → Option (Res ρ ρ β)} (hi : SI wi E A fi) (hg : SG g is E A E1 p) (hb : SS tb E1 E E s mb) (hf : ∀ x γ, mb (p x γ) = f x γ) :
    SS (tFor wi g tb) E E Ec s (fun γ => ob (fi γ) fun xs => forR f xs γ) := by
  have e : f = fun x γ => mb (p x γ) := by
    funext x γ
    exact (hf x γ).symm
  rw [e]
  exact ss_for hi hg hb
end
section
variable {ρ ρ' β : Type} {E : En ρ} {E' : En ρ'} {s : Sl β} {t : TS}
theorem fin_runX {a : Ar ρ} {n k : Nat} {N : List Str} {mm : ρ → Option β} {vs : List V} {H : Hp} {Q : VK} {Ex : XK} {D : Ends} (hA : AE a E n) (hn : AN a k) (hN : N.length = k + n) (h : ∃ m : ρ → Option (Res ρ' Unit β), SS t E E' eN (rS s) m ∧ mm = fun γ => Mi.fin (m γ)) (q : spM a s mm vs H Q Ex) (hD : D.rt = Q) : t D (L2.start N vs) H := by
  obtain ⟨m, h, e⟩ := h
  exact fin_run hA hn hN h e q hD
theorem finN_runX {a : Ar ρ} {n k : Nat} {N : List Str} {mm : ρ → Option Unit} {vs : List V} {H : Hp} {Q : VK} {Ex : XK} {D : Ends} (hA : AE a E n) (hn : AN a k) (hN : N.length = k + n) (h : ∃ m : ρ → Option (Res ρ' Unit Unit), SS t E E' eN (rS (sF jN)) m ∧ mm = fun γ => finN (m γ)) (q : spM a (sF jN) mm vs H Q Ex) (hD : D.rt = Q) (hD2 : D.nx = fun _ H' => Q .non H') : t D (L2.start N vs) H := by
  obtain ⟨m, h, e⟩ := h
  exact finN_run hA hn hN h e q hD hD2
end
end Mi

namespace Mi
open PySem PySem.Spec PyProof.Rows L2 Fw
/-! ### own lists of own things -/
theorem set_id {τ : Type} {l : List τ} {k : Nat} {x : τ} (h : l[k]? = some x) : l.set k x = l := by
  obtain ⟨hk, e⟩ := List.getElem?_eq_some_iff.mp h
  rw [← e]
  exact List.set_getElem_self hk
inductive Dq {α : Type} (s : Sl α) (F : Hp) : List V → List (Addr × HO) → List α → Prop
  | nil : Dq s F [] [] []
  | cons {v : V} {x : α} {vs : List V} {xs : List α} {L1 L2 : List (Addr × HO)} : s.r v F L1 x → Dq s F vs L2 xs → Dq s F (v :: vs) (L1 ++ L2) (x :: xs)
section
variable {α : Type} {s : Sl α} {F F' : Hp}
theorem Dq.mono (z : Same F F') : ∀ {vs : List V} {L : List (Addr × HO)} {xs : List α}, Dq s F vs L xs → Dq s F' vs L xs
  | _, _, _, .nil => .nil
  | _, _, _, .cons h t => .cons (s.m z h) (Dq.mono z t)
theorem Dq.len : ∀ {vs : List V} {L : List (Addr × HO)} {xs : List α}, Dq s F vs L xs → vs.length = xs.length
  | _, _, _, .nil => rfl
  | _, _, _, .cons _ t => by rw [List.length_cons, List.length_cons, Dq.len t]
theorem Dq.app {ws : List V} {M : List (Addr × HO)} {ys : List α} (k : Dq s F ws M ys) : ∀ {vs : List V} {L : List (Addr × HO)} {xs : List α}, Dq s F vs L xs → Dq s F (vs ++ ws) (L ++ M) (xs ++ ys)
  | _, _, _, .nil => k
  | _, _, _, .cons h t => by
    rw [List.append_assoc]
    exact .cons h (Dq.app k t)
theorem Dq.one {v : V} {L : List (Addr × HO)} {x : α} (h : s.r v F L x) : Dq s F [v] L [x] := by
  have := Dq.cons h Dq.nil
  rwa [List.append_nil] at this
theorem Dq.focus : ∀ {vs : List V} {L : List (Addr × HO)} {xs : List α} {k : Nat} {x : α}, Dq s F vs L xs → xs[k]? = some x →
    ∃ v pre Lk post, vs[k]? = some v ∧ L = pre ++ (Lk ++ post) ∧ s.r v F Lk x ∧ ∀ F' v' Lk' x', Same F F' → s.r v' F' Lk' x' → Dq s F' (vs.set k v') (pre ++ (Lk' ++ post)) (xs.set k x')
  | _, _, _, _, _, .nil, e => by simp at e
  | _, _, _, 0, _, .cons (L1 := L1) (L2 := L2) h t, e => by
    cases Option.some.inj e
    exact ⟨_, [], L1, L2, rfl, rfl, h, fun F' v' Lk' x' z h' => (Dq.cons (L1 := Lk') (L2 := L2) h' (t.mono z) :)⟩
  | _, _, _, k + 1, _, .cons (L1 := L1) (L2 := L2) h t, e => by
    obtain ⟨v, pre, Lk, post, h1, h2, h3, h4⟩ := Dq.focus (k := k) t e
    refine ⟨v, L1 ++ pre, Lk, post, h1, by rw [h2, List.append_assoc], h3, fun F' v' Lk' x' z h' => ?_⟩
    rw [List.append_assoc]
    exact .cons (s.m z h) (h4 F' v' Lk' x' z h')
theorem Dq.tk : ∀ (n : Nat) {vs : List V} {L : List (Addr × HO)} {xs : List α}, Dq s F vs L xs → ∃ L1 L2, L = L1 ++ L2 ∧ Dq s F (vs.take n) L1 (xs.take n)
  | 0, _, L, _, _ => ⟨[], L, rfl, .nil⟩
  | _ + 1, _, _, _, .nil => ⟨[], [], rfl, .nil⟩
  | n + 1, _, _, _, .cons (L1 := L1) h t => by
    obtain ⟨M1, M2, e, d⟩ := Dq.tk n t
    exact ⟨L1 ++ M1, M2, by rw [e, List.append_assoc], .cons h d⟩
end
def sD {α : Type} (s : Sl α) : Sl (List α) := ⟨fun v F L xs => ∃ p vs M, v = .ref p ∧ L = (p, .lst vs) :: M ∧ Dq s F vs M xs, fun z ⟨p, vs, M, h1, h2, h3⟩ => ⟨p, vs, M, h1, h2, h3.mono z⟩⟩
theorem Dq.ofP {α : Type} {R : Rp α} {F : Hp} : ∀ {vs : List V} {xs : List α}, Paired (R.r F) vs xs → Dq (sF R) F vs [] xs
  | _, _, .nil => .nil
  | _, _, .cons h t => (Dq.cons (s := sF R) (L1 := []) (L2 := []) ⟨rfl, h⟩ (Dq.ofP t) :)
theorem Dq.toP {α : Type} {R : Rp α} {F : Hp} : ∀ {vs : List V} {L : List (Addr × HO)} {xs : List α}, Dq (sF R) F vs L xs → L = [] ∧ Paired (R.r F) vs xs
  | _, _, _, .nil => ⟨rfl, .nil⟩
  | _, _, _, .cons ⟨h0, h⟩ t => by
    obtain ⟨e, p⟩ := Dq.toP t
    subst h0 e
    exact ⟨rfl, .cons h p⟩
/-- an own thing is frozen -/
structure Fz {α : Type} (s : Sl α) (R : Rp α) : Prop where
  run : ∀ {F0 H0 F H : Hp} {L Z : List (Addr × HO)} {v : V} {x : α}, Own F0 H0 F H (L ++ Z) [] → s.r v F L x → ∃ F', Same F F' ∧ Own F0 H0 F' H Z [] ∧ R.r F' v x
theorem fzF {α : Type} {R : Rp α} : Fz (sF R) R := ⟨fun {_ _ F _ _ _ _ _} O ⟨e, h⟩ => by
  subst e
  exact ⟨F, Same.refl _, O, h⟩⟩
theorem fzDq {α : Type} {s : Sl α} {R : Rp α} (h : Fz s R) {F0 H0 H : Hp} {Z : List (Addr × HO)} : ∀ {F : Hp} {vs : List V} {L : List (Addr × HO)} {xs : List α}, Dq s F vs L xs → Own F0 H0 F H (L ++ Z) [] → ∃ F', Same F F' ∧ Own F0 H0 F' H Z [] ∧ Paired (R.r F') vs xs
  | F, _, _, _, .nil, O => ⟨F, Same.refl _, O, .nil⟩
  | F, _, _, _, .cons a t, O => by
    rw [List.append_assoc] at O
    obtain ⟨F1, s1, O1, r1⟩ := h.run O a
    obtain ⟨F2, s2, O2, r2⟩ := fzDq h (t.mono s1) O1
    exact ⟨F2, s1.trans s2, O2, .cons (R.m s2 r1) r2⟩
theorem fzD {α : Type} {s : Sl α} {R : Rp α} (h : Fz s R) : Fz (sD s) (jL R) := ⟨fun {_ _ F _ _ _ _ _} O ⟨p, vs, M, e1, e2, d⟩ => by
  subst e1 e2
  have O1 := (show Own _ _ _ _ ((p, HO.lst vs) :: (M ++ _)) [] from O).freeze
  have s1 : Same F (upd F p (.lst vs)) := fun b u e => by rw [upd_ne (ne_of_none e ((O.own (p, .lst vs) List.mem_cons_self)).1)]; exact e
  obtain ⟨F2, s2, O2, r2⟩ := fzDq h (d.mono s1) (O1.chunks trivial)
  exact ⟨F2, s1.trans s2, O2, p, vs, rfl, s2 _ _ upd_same, r2⟩⟩
section
variable {ρ ρ' ρ'' α β δ ε κ : Type} {E : En ρ} {E' : En ρ'} {E1 : En ρ''} {Ec : En κ} {ta tb tc te ti t : TE} {R : Rp α} {K : PySem.W.Frag} {s : RRt β} {s1 : Sl α} {s' : Sl δ} {u : TS}
theorem cD {c : ρ → ρ'} (hz : Fz s1 R) (h : Co E E' c) : Co (eC s1 E) (eC (sF R) E') (fun γ => (γ.1, c γ.2)) := ⟨fun {_ _ _ F _ _ Z _} O ⟨v, σ', L1, L2, e1, e2, q, t⟩ => by
  subst e1 e2
  rw [List.append_assoc] at O
  obtain ⟨F1, z1, O1, r1⟩ := hz.run O q
  obtain ⟨F', L', O', sF, t'⟩ := h O1 (E.m z1 t)
  exact ⟨F', L', O', z1.trans sF, v, σ', [], L', rfl, rfl, ⟨rfl, R.m sF r1⟩, t'⟩⟩
theorem se_fzD {f : ρ → Option α} (hz : Fz s1 R) (h : SE t E s1 f) : SE t E (sF R) f := ⟨fun s0 hL hE e k => by
  refine h s0 hL hE e fun v F1 H1 L1 st r => ?_
  obtain ⟨F2, z, O2, q⟩ := hz.run (Z := []) (by rw [List.append_nil]; exact st) r
  exact k _ _ _ [] O2 ⟨rfl, q⟩⟩
theorem se_toD {f : ρ → Option (List α)} (h : SE t E (sO R) f) : SE t E (sD (sF R)) f := ⟨fun s0 hL hE e k => h s0 hL hE e fun v F1 H1 L1 st ⟨p, vs, e1, e2, q⟩ => k _ _ _ _ st ⟨p, vs, [], e1, e2, .ofP q⟩⟩
theorem se_nilD {f : ρ → Option (List Unit)} (h : SE t E (sO jN) f) (h0 : ∀ γ, f γ = some []) : SE t E (sD s1) (fun _ => some []) := ⟨fun {_ _ _ _ γ _ _} s0 hL hE e k => by
  cases e
  refine h s0 hL hE (h0 γ) fun v F1 H1 L1 st ⟨p, vs, e1, e2, q⟩ => k _ _ _ _ st ⟨p, vs, [], e1, e2, ?_⟩
  cases q
  exact .nil⟩
theorem nilU : pck (([] : List Unit).length ≤ sz) [] = some ([] : List Unit) := if_pos (Nat.zero_le _)
/-- a name's own thing -/
structure Fx (E : En ρ) (i : Nat) (s : Sl α) (g : ρ → α) (up : α → ρ → ρ) : Prop where
  run : ∀ {σ : L2.St} {F : Hp} {L : List (Addr × HO)} {γ : ρ}, E.r σ F L γ → ∃ v pre L1 post, σ[i]? = some (some v) ∧ L = pre ++ (L1 ++ post) ∧ s.r v F L1 (g γ) ∧ ∀ F' L1' x', Same F F' → s.r v F' L1' x' → E.r σ F' (pre ++ (L1' ++ post)) (up x' γ)
theorem k0 : Fx (eC s1 E) 0 s1 (fun γ => γ.1) (fun x γ => (x, γ.2)) := ⟨fun ⟨v, σ', L1, L2, e1, e2, h, t⟩ => by
  subst e1 e2
  exact ⟨v, [], L1, L2, rfl, rfl, h, fun F' L1' x' z h' => ⟨v, σ', L1', L2, rfl, rfl, h', E.m z t⟩⟩⟩
theorem kU {i : Nat} {g : ρ → α} {up : α → ρ → ρ} (h : Fx E i s1 g up) : Fx (eU E) (i + 1) s1 g up := ⟨fun ⟨o, σ', e, t⟩ => by
  subst e
  obtain ⟨v, pre, L1, post, h1, h2, h3, h4⟩ := h.run t
  exact ⟨v, pre, L1, post, h1, h2, h3, fun F' L1' x' z h' => ⟨o, σ', rfl, h4 F' L1' x' z h'⟩⟩⟩
theorem kS {i : Nat} {g : ρ → α} {up : α → ρ → ρ} (h : Fx E i s1 g up) : Fx (eC s' E) (i + 1) s1 (fun γ => g γ.2) (fun x γ => (γ.1, up x γ.2)) := ⟨fun ⟨v', σ', La, L2, e1, e2, q, t⟩ => by
  subst e1 e2
  obtain ⟨v, pre, L1, post, h1, h2, h3, h4⟩ := h.run t
  subst h2
  exact ⟨v, La ++ pre, L1, post, h1, by rw [List.append_assoc], h3, fun F' L1' x' z h' => ⟨v', σ', La, _, rfl, by rw [List.append_assoc], s'.m z q, h4 F' L1' x' z h'⟩⟩⟩
/-- a place within own things -/
structure SPl {τ : Type} (t : TE) (E : En ρ) (s : Sl α) (f : ρ → Option α) (up : ρ → α → Option τ) (pt : τ → ρ → ρ) : Prop where
  run : ∀ {σ : L2.St} {F H : Hp} {L : List (Addr × HO)} {γ : ρ} {y : α} {Q : VK}, Same F H → Held H L → E.r σ F L γ → f γ = some y →
    (∀ v F' H', Step F H F' H' [] → (∃ pre L1 post, L = pre ++ (L1 ++ post) ∧ s.r v F' L1 y ∧ ∀ F2 L2 y2 γ2, Same F' F2 → s.r v F2 L2 y2 → up γ y2 = some γ2 → E.r σ F2 (pre ++ (L2 ++ post)) (pt γ2 γ)) → Q v H') → t σ H Q
theorem pl_var {i : Nat} {g : ρ → α} {up : α → ρ → ρ} (h : Fx E i s1 g up) : SPl (tVar i) E s1 (fun γ => some (g γ)) (fun _ y => some y) up := ⟨fun s0 hL hE e k => by
  cases e
  obtain ⟨v, pre, L1, post, h1, h2, h3, h4⟩ := h.run hE
  exact ⟨v, h1, k v _ _ (Step.nil s0) ⟨pre, L1, post, h2, h3, fun F2 L2 y2 γ2 z q e => by cases e; exact h4 F2 L2 y2 z q⟩⟩⟩
theorem pl_ix {τ : Type} {f : ρ → Option (List α)} {up : ρ → List α → Option τ} {pt : τ → ρ → ρ} {fi : ρ → Option Int} (ht : SPl t E (sD s1) f up pt) (hi : SE ti E (sF jI) fi) :
    SPl (tOp (rIxL K) t ti) E s1 (fun γ => ob (f γ) fun xs => ob (fi γ) fun i => pat xs i) (fun γ y => ob (f γ) fun xs => ob (fi γ) fun i => ob (pset xs i y) fun ys => up γ ys) pt := ⟨fun {σ F H L γ y Q} s0 hL hE e k => by
  obtain ⟨xs, e1, e⟩ := ob_some e
  obtain ⟨i, e2, e3⟩ := ob_some e
  refine ht.run s0 hL hE e1 fun v F1 H1 st1 ⟨pre, L1, post, h1, ⟨p, vs, M, h2, h3, h4⟩, h5⟩ => ?_
  subst h2 h3
  refine hi st1.fh (hL.mono st1.hh) (E.m st1.f0 hE) e2 fun w F2 H2 L2 st2 ⟨z, r⟩ => ?_
  subst z
  obtain ⟨kk, g1, g2⟩ := pat_ix e3
  obtain ⟨x, pre2, Lk, post2, q1, q2, q3, q4⟩ := Dq.focus (h4.mono st2.f0) g2
  have hp := st2.hh _ _ (st1.hh _ _ (hL (p, .lst vs) (by rw [h1]; simp)))
  refine ⟨p, vs, i, x, rfl, r, .inl (.inl hp), ?_, k _ _ _ (st1.tr st2) ⟨pre ++ (p, .lst vs) :: pre2, Lk, post2 ++ post, ?_, q3, fun F3 L3 y3 γ3 z h e => ?_⟩⟩
  · unfold atI
    rw [h4.len, g1]
    exact q1
  · rw [h1, q2]
    simp
  · have e5 : up γ (xs.set kk y3) = some γ3 := by
      obtain ⟨_, a1, e⟩ := ob_some e
      rw [e1] at a1
      cases a1
      obtain ⟨_, a2, e⟩ := ob_some e
      rw [e2] at a2
      cases a2
      unfold pset at e
      rw [g1] at e
      exact e
    have d := q4 F3 x L3 y3 z h
    have ev : vs.set kk x = vs := set_id q1
    rw [ev] at d
    have := h5 F3 ((p, .lst vs) :: (pre2 ++ (L3 ++ post2))) (xs.set kk y3) γ3 (st2.f0.trans z) ⟨p, vs, _, rfl, rfl, d⟩ e5
    simpa using this⟩
theorem pm1 {a : Addr × HO} {A B C D : List (Addr × HO)} : (a :: (A ++ (B ++ (C ++ D)))).Perm (C ++ (A ++ ((a :: B) ++ D))) := by
  have h1 : (C ++ (A ++ ((a :: B) ++ D))).Perm (a :: (C ++ (A ++ (B ++ D)))) := by
    rw [← List.append_assoc, ← List.append_assoc C A]
    exact List.perm_middle
  refine List.Perm.trans ?_ h1.symm
  refine List.Perm.cons a ?_
  rw [← List.append_assoc, ← List.append_assoc A B D]
  exact List.perm_append_comm_assoc _ _ _
theorem pm2 {a : Addr × HO} {A B D : List (Addr × HO)} : (A ++ ((a :: B) ++ D)).Perm (a :: (A ++ (B ++ D))) := List.perm_middle
theorem pm3 {a : Addr × HO} {A B C D : List (Addr × HO)} : (A ++ ((a :: (B ++ C)) ++ D)).Perm (a :: (A ++ (B ++ (C ++ D)))) := by
  rw [← List.append_assoc B C D]
  exact List.perm_middle
variable {m : ρ → Option (Res ρ' κ β)}
theorem ss_plApp {τ : Type} {f : ρ → Option (List α)} {up : ρ → List α → Option τ} {pt : τ → ρ → ρ} {fe : ρ → Option α} (hp : SPl t E (sD s1) f up pt) (he : SE te E s1 fe) (hu : SS u E E' Ec s m) :
    SS (tSeq (tDrop (tBM K "list" rAppend t (tCons te tNil))) u) E E' Ec s (fun γ => ob (f γ) fun xs => ob (fe γ) fun y => ob (pck (xs.length < sz) (xs ++ [y])) fun ys => ob (up γ ys) fun γ' => m (pt γ' γ)) := ⟨fun O hE e fin => by
  obtain ⟨xs, e1, e⟩ := ob_some e
  obtain ⟨y, e2, e⟩ := ob_some e
  obtain ⟨ys, e3, e⟩ := ob_some e
  obtain ⟨pz, rfl⟩ := pck_some e3
  obtain ⟨γ', e4, e⟩ := ob_some e
  refine hp.run O.fh (Held.of O) hE e1 fun v F1 H1 st1 ⟨pre, L1, post, h1, ⟨p, vs, M, h2, h3, h4⟩, h5⟩ => ?_
  subst h2 h3 h1
  have O1 := Own.on O st1
  rw [List.nil_append] at O1
  refine tyL (Held.of O1 (p, .lst vs) (by simp)) ?_
  refine he O1.fh (Held.of O1) (E.m st1.f0 hE) e2 fun w F2 H2 Lw st2 r2 => ?_
  have O3 := (Own.on O1 st2).perm (pm1 (a := (p, .lst vs)) (A := pre) (B := M) (C := Lw) (D := post))
  exact w_app (j := 0) (Q := fun _ H' => u _ _ H') O3 rfl (fun H' O4 => hu.run (O4.perm pm3) (h5 F2 ((p, .lst (vs ++ [w])) :: (M ++ Lw)) _ γ' st2.f0 ⟨p, _, _, rfl, rfl, Dq.app (.one r2) (h4.mono st2.f0)⟩ e4) e (fin.mo (st1.f0.trans st2.f0))) (sz_lt (by rw [h4.len]; exact pz))⟩
theorem ss_plPop {τ : Type} {f : ρ → Option (List α)} {up : ρ → List α → Option τ} {pt : τ → ρ → ρ} (hp : SPl t E (sD s1) f up pt) (hu : SS u E E' Ec s m) :
    SS (tSeq (tDrop (tBM0 K "list" rPop t)) u) E E' Ec s (fun γ => ob (f γ) fun xs => ob (pck (0 < xs.length) xs.dropLast) fun ys => ob (up γ ys) fun γ' => m (pt γ' γ)) := ⟨fun O hE e fin => by
  obtain ⟨xs, e1, e⟩ := ob_some e
  obtain ⟨ys, e3, e⟩ := ob_some e
  obtain ⟨pz, rfl⟩ := pck_some e3
  obtain ⟨γ', e4, e⟩ := ob_some e
  refine hp.run O.fh (Held.of O) hE e1 fun v F1 H1 st1 ⟨pre, L1, post, h1, ⟨p, vs, M, h2, h3, h4⟩, h5⟩ => ?_
  subst h2 h3 h1
  have O1 := Own.on O st1
  rw [List.nil_append] at O1
  have hl := h4.len
  have O2 := O1.perm (pm2 (a := (p, .lst vs)) (A := pre) (B := M) (D := post)).symm
  refine tyL (O2.at_ 0) ⟨p, vs, _, rfl, rfl, O2.at_ 0, List.getElem?_eq_getElem (by omega), ?_⟩
  obtain ⟨M1, M2, hM, hd⟩ := Dq.tk (vs.length - 1) h4
  subst hM
  have O3 := O2.set 0 rfl (.lst vs.dropLast)
  refine hu.run (L := pre ++ (((p, .lst vs.dropLast) :: M1) ++ post)) (OwnSb O3 ⟨M2, ?_⟩) (h5 F1 _ _ γ' (Same.refl _) ⟨p, _, _, rfl, rfl, ?_⟩ e4) e (fin.mo st1.f0)
  · show List.Perm _ ((p, HO.lst vs.dropLast) :: (pre ++ ((M1 ++ M2) ++ post)))
    have h1 : (((p, HO.lst vs.dropLast) :: (pre ++ (M1 ++ post))) ++ M2).Perm ((p, HO.lst vs.dropLast) :: (pre ++ ((M1 ++ M2) ++ post))) := by
      refine List.Perm.cons _ ?_
      show List.Perm ((pre ++ (M1 ++ post)) ++ M2) _
      rw [List.append_assoc, List.append_assoc, List.append_assoc]
      exact ((List.perm_append_comm).append_left M1).append_left pre
    exact (pm2.append_right M2).trans h1
  · rw [List.dropLast_eq_take, List.dropLast_eq_take, ← hl]
    exact hd⟩
theorem ss_plSet {τ : Type} {f : ρ → Option (List α)} {up : ρ → List α → Option τ} {pt : τ → ρ → ρ} {fe : ρ → Option α} {fi : ρ → Option Int} (hp : SPl t E (sD s1) f up pt) (he : SE te E s1 fe) (hi : SE ti E (sF jI) fi) (hu : SS u E E' Ec s m) :
    SS (tSeq (tAsg te (gSub t ti rSetL)) u) E E' Ec s (fun γ => ob (fe γ) fun y => ob (f γ) fun xs => ob (fi γ) fun i => ob (pset xs i y) fun ys => ob (up γ ys) fun γ' => m (pt γ' γ)) := ⟨fun {σ F0 H0 F H L γ r D} O hE e fin => by
  obtain ⟨y, e2, e⟩ := ob_some e
  obtain ⟨xs, e1, e⟩ := ob_some e
  obtain ⟨i, e5, e⟩ := ob_some e
  obtain ⟨ys, e3, e⟩ := ob_some e
  obtain ⟨γ', e4, ez⟩ := ob_some e
  refine he O.fh (Held.of O) hE e2 fun w F1 H1 Lw st1 r1 => ?_
  have O1 := Own.on O st1
  have hL1 : Held H1 L := fun q hq => Held.of O1 q (List.mem_append_right _ hq)
  refine hp.run O1.fh hL1 (E.m st1.f0 hE) e1 fun v F2 H2 st2 ⟨pre, L1, post, h1, ⟨p, vs, M, h2, h3, h4⟩, h5⟩ => ?_
  subst h2 h3
  have O2 := Own.on O1 st2
  rw [List.nil_append] at O2
  refine hi O2.fh (hL1.mono st2.hh) (E.m (st1.f0.trans st2.f0) hE) e5 fun z F3 H3 L3 st3 ⟨z3, r3⟩ => ?_
  subst z3
  have O3 := Own.on O2 st3
  rw [List.nil_append] at O3
  unfold pset at e3
  cases hj : ixN xs.length i with
  | none => rw [hj] at e3; cases e3
  | some n =>
    rw [hj] at e3
    have e3 : xs.set n y = ys := Option.some.inj e3
    subst e3
    subst h1
    have O4 := O3.perm (pm1 (a := (p, .lst vs)) (A := pre) (B := M) (C := Lw) (D := post))
    refine ⟨p, vs, i, n, rfl, r3, O4.at_ 0, by rw [h4.len]; exact hj, ?_⟩
    have O5 := O4.set 0 rfl (.lst (vs.set n w))
    cases hx : xs[n]? with
    | none =>
      have hn : xs.length ≤ n := List.getElem?_eq_none_iff.mp hx
      refine hu.run (L := pre ++ (((p, .lst (vs.set n w)) :: M) ++ post)) (OwnSb O5 ⟨Lw, ?_⟩) (h5 F3 _ _ γ' st3.f0 ⟨p, _, _, rfl, rfl, ?_⟩ e4) ez (fin.mo (st1.f0.trans (st2.f0.trans st3.f0)))
      · exact (List.perm_append_comm).trans pm1.symm
      · rw [List.set_eq_of_length_le hn, List.set_eq_of_length_le (by rw [h4.len]; exact hn)]
        exact h4.mono st3.f0
    | some x =>
      obtain ⟨x', pre2, Lk, post2, q1, q2, q3, q4⟩ := Dq.focus (h4.mono st3.f0) hx
      subst q2
      refine hu.run (L := pre ++ (((p, .lst (vs.set n w)) :: (pre2 ++ (Lw ++ post2))) ++ post)) (OwnSb O5 ⟨Lk, ?_⟩) (h5 F3 _ _ γ' st3.f0 ⟨p, _, _, rfl, rfl, q4 F3 w Lw y (Same.refl _) (s1.m (st2.f0.trans st3.f0) r1)⟩ e4) ez (fin.mo (st1.f0.trans (st2.f0.trans st3.f0)))
      refine (pm2.append_right Lk).trans (List.Perm.cons _ ?_)
      show List.Perm ((pre ++ ((pre2 ++ (Lw ++ post2)) ++ post)) ++ Lk) _
      rw [List.append_assoc, List.append_assoc, List.append_assoc, List.append_assoc, List.append_assoc]
      refine List.Perm.append_left pre (List.Perm.append_left pre2 ?_)
      have a1 : (Lw ++ (post2 ++ (post ++ Lk))).Perm (Lk ++ (post2 ++ (Lw ++ post))) := by
        have b1 : (Lw ++ (post2 ++ (post ++ Lk))).Perm (post2 ++ (Lw ++ (post ++ Lk))) := List.perm_append_comm_assoc _ _ _
        have b2 : (post2 ++ (Lw ++ (post ++ Lk))) = (post2 ++ (Lw ++ post)) ++ Lk := by simp
        rw [b2] at b1
        exact b1.trans List.perm_append_comm
      simpa using a1⟩
/-- row = place; row[c] = e -/
theorem ss_alias {τ : Type} {f : ρ → Option (List Int)} {up : ρ → List Int → Option τ} {pt : τ → ρ → ρ} {j : Nat} {p : List Int → ρ → ρ''} {g : ρ'' → List Int} {fe fc : ρ'' → Option Int} (hp : SPl t E (sD (sF jI)) f up pt) (hpt : Pt E j (sF (jL jI)) E1 p) (hg : Gt E1 j (sF (jL jI)) g) (hn : Un E j) (he : SE te E1 (sF jI) fe) (hc : SE tc E1 (sF jI) fc) (hu : SS u E E' Ec s m) :
    SS (tSeq (tAsg t (gName j)) (tSeq (tAsg te (gSub (tVar j) tc rSetL)) u)) E E' Ec s (fun γ => ob (f γ) fun row => ob (fe (p row γ)) fun y => ob (fc (p row γ)) fun c => ob (pset row c y) fun row' => ob (up γ row') fun γ' => m (pt γ' γ)) := ⟨fun {σ F0 H0 F H L γ r D} O hE e fin => by
  obtain ⟨row, e1, e⟩ := ob_some e
  obtain ⟨y, e2, e⟩ := ob_some e
  obtain ⟨c, e3, e⟩ := ob_some e
  obtain ⟨row', e4, e⟩ := ob_some e
  obtain ⟨γ', e5, ez⟩ := ob_some e
  refine hp.run O.fh (Held.of O) hE e1 fun v F1 H1 st1 ⟨pre, L1, post, h1, ⟨q, vs, M, h2, h3, h4⟩, h5⟩ => ?_
  obtain ⟨hM, h6⟩ := h4.toP
  subst h2 h3 h1 hM
  have O1 := Own.on O st1
  rw [List.nil_append] at O1
  have hq : H1 q = some (.lst vs) := Held.of O1 (q, .lst vs) (by simp)
  have hF : F1 q = none := (O1.own (q, .lst vs) (by simp)).1
  have zF : Same F1 (upd F1 q (.lst vs)) := fun b u e => by rw [upd_ne (ne_of_none e hF)]; exact e
  have zH : Same (upd F1 q (.lst vs)) H1 := fun b u e => by
    by_cases hb : b = q
    · subst hb
      rw [upd_same] at e
      cases e
      exact hq
    · rw [upd_ne hb] at e
      exact O1.fh b u e
  obtain ⟨L', hE1, hS⟩ := hpt.run (L1 := []) (E.m (st1.f0.trans zF) hE) (show (sF (jL jI)).r (.ref q) (upd F1 q (.lst vs)) [] row from ⟨rfl, q, vs, rfl, upd_same, Paired.mono (fun _ _ w => w) h6⟩)
  rw [List.nil_append] at hS
  have hL' : Held H1 L' := fun z hz => Held.of O1 z (hS.mem hz)
  show te _ _ _
  refine he zH hL' hE1 e2 fun wv F2 H2 L2 st2 ⟨z2, r2⟩ => ?_
  subst z2
  have r2 : wv = .int y := r2
  subst r2
  obtain ⟨v', La, w1, _, _, a', vs', w2, _, _⟩ := hg.run hE1
  have hj : (σ.set j (some (V.ref q)))[j]? = some (some (.ref q)) := by
    rw [w1]
    rw [List.getElem?_set] at w1
    simp only [if_true] at w1
    split at w1
    · exact w1.symm
    · cases w1
  refine ⟨.ref q, hj, ?_⟩
  refine hc (st2.fh) (hL'.mono st2.hh) (E1.m st2.f0 hE1) e3 fun w F3 H3 L3 st3 ⟨z3, r3⟩ => ?_
  subst z3
  have O3 := O1.more (st2.hh.trans st3.hh)
  have O4 := O3.perm (pm2 (a := (q, .lst vs)) (A := pre) (B := []) (D := post)).symm
  unfold pset at e4
  cases hi : ixN row.length c with
  | none => rw [hi] at e4; cases e4
  | some n =>
    rw [hi] at e4
    have e4 : row.set n y = row' := Option.some.inj e4
    subst e4
    refine ⟨q, vs, c, n, rfl, r3, O4.at_ 0, by rw [Paired.len h6]; exact hi, ?_⟩
    have O5 := O4.set 0 rfl (.lst (vs.set n (.int y)))
    refine hu.run (O5.perm pm2) (hn.run (h5 F1 [(q, .lst (vs.set n (.int y)))] _ γ' (Same.refl _) ⟨q, _, [], rfl, rfl, .ofP (Paired.upd (A := jI.r F1) rfl n h6)⟩ e5)) ez (fin.mo st1.f0)⟩
/-- [own thing for x in xs] -/
theorem se_lcD {A : Rp δ} {wi : TI} {g : TG} {is vs : List Nat} {fi : ρ → Option (List δ)} {fe : ρ' → Option α} {p : δ → ρ → ρ'} (hi : SI wi E A fi) (hw : Wp E vs) (hg : SG g is E A E' p) (he : SE te E' s1 fe) (hv : ∀ i ∈ is, i ∈ vs := by decide) :
    SE (tLc wi g tYes te vs) E (sD s1) (fun γ => ob (fi γ) fun xs => ob (lcM (fun x => fe (p x γ)) xs) fun r => pck (r.length ≤ sz) r) := ⟨fun {σ _ _ L γ res Q} s0 hL hE e k => by
  obtain ⟨xs, e1, e⟩ := ob_some e
  obtain ⟨rs, e2, e⟩ := ob_some e
  obtain ⟨pz, e3⟩ := pck_some e
  subst e3
  refine hi.run s0 hL hE e1 fun J F1 H1 st1 it => ?_
  have hE1 := E.m st1.f0 hE
  have hL1 := hL.mono st1.hh
  intro D hD
  refine ⟨fun i m H' => m = xs.length - i ∧ i ≤ xs.length ∧ ∃ F' acc M ys zs, Step F1 H1 F' H' ((D, .lst acc) :: M) ∧ Dq s1 F' acc M ys ∧ lcM (fun x => fe (p x γ)) (xs.drop i) = some zs ∧ rs = ys ++ zs,
    ⟨xs.length, by omega, Nat.zero_le _, F1, [], [], [], rs, (Step.nil st1.fh).alloc hD _, .nil, e2, rfl⟩, ?_⟩
  rintro i m H' ⟨rfl, hi, F', acc, M, ys, zs, st2, pa, e4, e5⟩
  by_cases hlt : i < xs.length
  · obtain ⟨x, hx⟩ : ∃ x, xs[i]? = some x := ⟨_, List.getElem?_eq_getElem hlt⟩
    obtain ⟨go, yl⟩ := it.one st2.f0 st2.fh hx
    have ed : xs.drop i = x :: xs.drop (i + 1) := by
      rw [List.drop_eq_getElem_cons hlt]
      congr 1
      rw [List.getElem?_eq_getElem hlt] at hx
      exact Option.some.inj hx
    rw [ed] at e4
    obtain ⟨y, e8, e9⟩ := ob_some e4
    obtain ⟨r, e10, e11⟩ := ob_some e9
    cases e11
    have hacc : acc.length < sz := by
      rw [pa.len]
      rw [e5, List.length_append, List.length_cons] at pz
      omega
    refine .inr ⟨go, fun H'' => ∃ F' acc M ys zs, Step F1 H1 F' H'' ((D, .lst acc) :: M) ∧ Dq s1 F' acc M ys ∧ lcM (fun x => fe (p x γ)) (xs.drop (i + 1)) = some zs ∧ rs = ys ++ zs, fun H'' h => ⟨xs.length - (i + 1), by omega, rfl, hlt, h⟩, fun v H3 hy => ?_⟩
    obtain ⟨F3, s3, r3⟩ := yl v H3 hy
    have s13 := Own.on st2 s3
    rw [List.nil_append] at s13
    refine hg s3.fh (hw (E.m s13.f0 hE1)) r3 fun σ4 L4 hb4 hE4 hw4 => ⟨?_, ?_⟩
    · rw [hw4 vs hv]
      have gen : ∀ (ws : List Nat), (∀ i ∈ ws, i ∈ vs) → wipe (wipe σ ws) vs = wipe σ vs := by
        intro ws
        induction ws with
        | nil => intro _; rfl
        | cons a as ih => intro h; show wipe ((wipe σ as).set a none) vs = _; rw [wipe_comm _ _ _ vs (h a List.mem_cons_self), ih fun i hi => h i (List.mem_cons_of_mem _ hi)]
      exact gen vs fun _ h => h
    have hL4 : Held H3 L4 := fun q hq => (hL1.mono s13.hh) q (hb4.mem hq)
    show te _ _ _
    refine he s3.fh hL4 hE4 e8 fun w F6 H6 L6 s6 r6 => ?_
    have s16 := Own.on s13 s6
    have O7 := s16.perm (L' := (D, .lst acc) :: (M ++ L6)) ((List.Perm.cons _ List.perm_append_comm).trans List.perm_middle.symm)
    exact ⟨acc, O7.at_ 0, sz_lt hacc, F6, _, M ++ L6, ys ++ [y], r, O7.set 0 rfl _, Dq.app (.one r6) (pa.mono (s3.f0.trans s6.f0)), e10, by rw [e5, List.append_assoc]; rfl⟩
  · have hi2 : i = xs.length := by omega
    subst hi2
    rw [List.drop_length] at e4
    cases e4
    rw [List.append_nil] at e5
    subst e5
    exact .inl ⟨it.stop st2.f0 st2.fh, k _ _ _ _ (by have := Own.on st1 st2; rwa [List.append_nil] at this) ⟨D, acc, M, rfl, rfl, pa⟩⟩⟩
end
end Mi

namespace Mi
open PySem PySem.Spec PyProof.Rows L2 Fw
theorem W_add {ρ κ β : Type} {c c' : Prop} [Decidable c] [Decidable c'] {e : Option Int} {x : Int} {l : List Int} {mk : List Int → Option (Res ρ κ β)} {Q : Res ρ κ β → Prop} (hc : c ↔ c') (he : c' → e = some x) (hl : l.length < sz) (q : W (mk (l ++ if c' then [x] else [])) Q) :
    W (if decide c = true then (ob e fun x => ob (pck (l.length < sz) (l ++ [x])) fun w => mk w) else mk l) Q := by
  refine W_ifD (fun h => ?_) (fun h => ?_)
  · rw [he (hc.mp h), W_ob, W_some, W_ob, W_pck]
    rw [if_pos (hc.mp h)] at q
    exact ⟨hl, q⟩
  · rw [if_neg fun z => h (hc.mpr z), List.append_nil] at q
    exact q
theorem one_le1 {c : Prop} [Decidable c] (x : Int) : (if c then [x] else ([] : List Int)).length ≤ 1 := by
  split
  · exact Nat.le_refl 1
  · exact Nat.zero_le 1
theorem cell_add {n m a b : Nat} {M : Nat → Nat → Int} {v : Int} (ha : a ≤ n) (hb : b ≤ m) : (ob (ob (pat (grid (n + 1) (m + 1) M) (a : Int)) fun x => pat x (b : Int)) fun x => some (x + v)) = some (M a b + v) := by
  have : (ob (pat (grid (n + 1) (m + 1) M) (a : Int)) fun x => pat x (b : Int)) = some (M a b) := pcell_grid (by omega) (by omega)
  rw [this]
  rfl
theorem cell_add2 {n m a b : Nat} {M : Nat → Nat → Int} {v v' : Int} (ha : a ≤ n) (hb : b ≤ m) : (ob (ob (ob (pat (grid (n + 1) (m + 1) M) (a : Int)) fun x => pat x (b : Int)) fun x => some (x + v)) fun x => some (x + v')) = some (M a b + (v + v')) := by
  rw [cell_add ha hb]
  show some (M a b + v + v') = _
  rw [Int.add_assoc]
end Mi

namespace Mi
open PySem PySem.Spec PyProof.Rows L2 Fw
/-! ### own lists handed in and changed -/
def cutH (H : Hp) (p : Addr) : Hp := fun b => if b = p then none else H b
theorem cutH_ne {H : Hp} {p b : Addr} (h : b ≠ p) : cutH H p b = H b := if_neg h
theorem cutH_same {H : Hp} {p : Addr} : cutH H p p = none := if_pos rfl
theorem cutH_sub {H : Hp} {p : Addr} : Same (cutH H p) H := fun b o e => by
  by_cases h : b = p
  · subst h
    rw [cutH_same] at e
    cases e
  · rwa [cutH_ne h] at e
section
variable {α β ρ ρ' ρ'' κ : Type} {R : Rp α} {B : Rp β} {p : Addr} {i : Nat} {E : En ρ} {tA : TA} {te : TE}
def sOA {α : Type} (p : Addr) (R : Rp α) : Sl (List α) := ⟨fun v F L xs => ∃ vs, v = .ref p ∧ L = [(p, .lst vs)] ∧ Paired (R.r F) vs xs, fun s ⟨vs, e, h, q⟩ => ⟨vs, e, h, Paired.mono (fun _ _ q => R.m s q) q⟩⟩
theorem gA {g : ρ → List α} (h : Gt E i (sOA p R) g) : Gt E i (sO R) g := ⟨fun e => by
  obtain ⟨v, L1, h1, h2, vs, h3⟩ := h e
  exact ⟨v, L1, h1, h2, p, vs, h3⟩⟩
theorem u0A : Up (eC (sOA p R) E) 0 R (fun γ => γ.1) (fun xs γ => (xs, γ.2)) := ⟨fun ⟨v', σ', La, L2, e1, e2, ⟨vs, e3, e4, q⟩, t⟩ => by
  subst e1 e2 e3 e4
  exact ⟨p, vs, 0, rfl, rfl, q, fun F' vs' xs' sF q' => ⟨_, σ', [(p, .lst vs')], L2, rfl, rfl, ⟨vs', rfl, rfl, q'⟩, E.m sF t⟩⟩⟩
/-- arguments, one of them the list at p -/
structure Au (ρ : Type) where
  r : Hp → List V → Addr → ρ → Prop
  m : ∀ {F F' : Hp} {v : List V} {p : Addr} {x : ρ}, Same F F' → r F v p x → r F' v p x
def uH (T : Ar ρ) : Au ρ := ⟨fun F vs p γ => ∃ r, vs = .ref p :: r ∧ T.r F r γ, fun s ⟨r, e, t⟩ => ⟨r, e, T.m s t⟩⟩
def uC (B : Rp β) (T : Au ρ) : Au (β × ρ) := ⟨fun F vs p γ => ∃ v r, vs = v :: r ∧ B.r F v γ.1 ∧ T.r F r p γ.2, fun s ⟨v, r, e, h, t⟩ => ⟨v, r, e, B.m s h, T.m s t⟩⟩
structure SAu (tA : TA) (E : En ρ) (i : Nat) (A : Au α) (f : ρ → Option α) : Prop where
  run : ∀ {σ : L2.St} {F H : Hp} {L : List (Addr × HO)} {γ : ρ} {x : α} {p : Addr} {Q : List V → Hp → Prop}, Same F H → Held H L → E.r σ F L γ → σ[i]? = some (some (.ref p)) → f γ = some x → (∀ vs F' H', Step F H F' H' [] → A.r F' vs p x → Q vs H') → tA σ H Q
theorem sau_hole {T : Ar α} {f : ρ → Option α} (h : SA tA E T f) : SAu (tCons (tVar i) tA) E i (uH T) f := ⟨fun s0 hL he hi e k => by
  refine ⟨_, hi, ?_⟩
  refine h s0 hL he e fun vs F' H' s1 r1 => k _ F' H' s1 ⟨vs, rfl, r1⟩⟩
theorem sau_cons {A : Au α} {f : ρ → Option α} {fa : ρ → Option β} (ha : SE te E (sF B) fa) (h : SAu tA E i A f) : SAu (tCons te tA) E i (uC B A) (fun γ => ob (fa γ) fun x => ob (f γ) fun r => some (x, r)) := ⟨fun s0 hL he hi e k => by
  obtain ⟨x, e1, e⟩ := ob_some e
  obtain ⟨r, e2, e⟩ := ob_some e
  cases e
  refine ha s0 hL he e1 fun v F1 H1 L1 s1 ⟨z1, r1⟩ => ?_
  subst z1
  refine h.run s1.fh (hL.mono s1.hh) (E.m s1.f0 he) hi e2 fun vs F2 H2 s2 r2 => ?_
  exact k _ F2 H2 (s1.tr s2) ⟨v, vs, rfl, B.m s2.f0 r1, r2⟩⟩
/-- a callee has changed the own list at p -/
theorem Own.lent {F0 H0 F H F' H' : Hp} {L : List (Addr × HO)} {C : List Ck} {o o' : HO} {j : Nat} (O : Own F0 H0 F H L C) (hj : L[j]? = some (p, o)) (c : Own F (cutH H p) F' H' [(p, o')] []) : Own F0 H0 F' H' (L.set j (p, o')) C := by
  obtain ⟨hF, hH0, hH⟩ := O.own (p, o) (List.mem_of_getElem? hj)
  obtain ⟨kF, _, kH⟩ := c.own (p, o') List.mem_cons_self
  have hc : ∀ b u, b ≠ p → H b = some u → H' b = some u := fun b u n e => c.hh b u (by rw [cutH_ne n]; exact e)
  refine ⟨O.f0.trans c.f0, c.fh, fun b u e => hc b u (ne_of_none e hH0) (O.hh b u e), fun b u h => ?_, fun q hq => ?_, ?_, O.cs.mono c.f0⟩
  · rcases c.new b u h with h | h
    · exact O.new b u h
    · by_cases hb : b = p
      · subst hb
        exact .inr hH0
      · rw [cutH_ne hb] at h
        exact .inr (O.hh.free h)
  · obtain ⟨k, hk⟩ := List.mem_iff_getElem?.mp hq
    by_cases e : j = k
    · subst e
      have hlt : j < L.length := (List.getElem?_eq_some_iff.mp hj).1
      rw [List.getElem?_set_self hlt] at hk
      cases hk
      exact ⟨kF, hH0, kH⟩
    · rw [List.getElem?_set_ne e] at hk
      obtain ⟨h1, h2, h3⟩ := O.own q (List.mem_of_getElem? hk)
      have hq : q.1 ≠ p := fun z => e (nodup_map_get O.nd hj hk z.symm)
      refine ⟨?_, h2, hc _ _ hq h3⟩
      cases z : F' q.1 with
      | none => rfl
      | some u =>
        rcases c.new _ _ z with h | h
        · rw [h1] at h; cases h
        · rw [cutH_ne hq, h3] at h; cases h
  · have e : (L.set j (p, o')).map Prod.fst = L.map Prod.fst := by
      rw [List.map_set]
      refine List.ext_getElem? fun k => ?_
      by_cases h : j = k
      · subst h
        have hlt : j < (L.map Prod.fst).length := by rw [List.length_map]; exact (List.getElem?_eq_some_iff.mp hj).1
        rw [List.getElem?_set_self hlt, List.getElem?_map, hj]
        rfl
      · rw [List.getElem?_set_ne h]
    rw [e]
    exact O.nd
theorem Own.lend {F H : Hp} {o : HO} (s : Same F H) (hF : F p = none) (hH : H p = some o) : Own F (cutH H p) F H [(p, o)] [] :=
  ⟨Same.refl _, s, cutH_sub, fun _ _ h => .inl h, fun q hq => by rw [List.mem_singleton.mp hq]; exact ⟨hF, cutH_same, hH⟩, by rw [List.map_singleton]; exact List.nodup_cons.mpr ⟨List.not_mem_nil, List.nodup_nil⟩, trivial⟩
/-- called with such arguments, it changes the list handed in -/
def spU (A : Au ρ) (R : Rp α) (m : List α → ρ → Option (List α)) : Sp := fun vs H Q _ => ∃ F p ws xs γ ys, Same F H ∧ F p = none ∧ H p = some (.lst ws) ∧ Paired (R.r F) ws xs ∧ A.r F vs p γ ∧ m xs γ = some ys ∧
  ∀ F' H' ws', Own F (cutH H p) F' H' [(p, .lst ws')] [] → Paired (R.r F') ws' ys → Q .non H'
theorem ss_callU {A : Au α} {τ : Type} {T : Rp τ} {g : ρ → List τ} {up : List τ → ρ → ρ} {f : ρ → Option α} {m : List τ → α → Option (List τ)} {E' : En ρ'} {Ec : En κ} {s : RRt β} {u : TS} {mm : ρ → Option (Res ρ' κ β)} {Ex : XK}
    (hu' : Up E i T g up) (ha : SAu tA E i A f) (hu : SS u E E' Ec s mm) : SS (tSeq (tDrop (tCall (spU A T m) [] Ex tA)) u) E E' Ec s (fun γ => ob (f γ) fun a => ob (m (g γ) a) fun ys => mm (up ys γ)) := ⟨fun {σ F0 H0 F H L γ r D} O hE e fin => by
  obtain ⟨a, e1, e⟩ := ob_some e
  obtain ⟨ys, e2, e⟩ := ob_some e
  obtain ⟨p, ws, j, h1, h2, h3, h4⟩ := hu' hE
  show tCall (spU A T m) [] Ex tA σ H (fun _ H1 => u D σ H1)
  rw [q_call]
  refine ha.run O.fh (Held.of O) hE h1 e1 fun vs F1 H1 s1 r1 => ?_
  have O1 := Own.on O s1
  rw [List.nil_append] at O1
  refine ⟨F1, p, ws, g γ, a, ys, O1.fh, (O1.own _ (List.mem_of_getElem? h2)).1, O1.at_ j h2, Paired.mono (fun _ _ q => T.m s1.f0 q) h3, r1, e2, fun F2 H2 ws2 c q2 => ?_⟩
  have O2 := Own.lent O1 h2 c
  exact hu.run O2 (h4 F2 _ _ (s1.f0.trans c.f0) q2) e (fin.mo (s1.f0.trans c.f0))⟩
/-! defs -/
structure AUE (A : Au ρ) (R : Rp α) (p : Addr) (E : En ρ') (n : Nat) (j : List α → ρ → ρ') : Prop where
  run : ∀ {F : Hp} {vs ws : List V} {xs : List α} {γ : ρ}, A.r F vs p γ → Paired (R.r F) ws xs → E.r (vs.map some ++ List.replicate n none) F [(p, .lst ws)] (j xs γ)
theorem aue_H {T : Ar ρ} {E : En ρ} {n : Nat} (h : AE T E n) : AUE (uH T) R p (eC (sOA p R) E) n (fun xs γ => (xs, γ)) := ⟨fun {F vs ws xs γ} ⟨r, e, t⟩ q => by
  subst e
  exact ⟨_, _, [(p, .lst ws)], [], rfl, rfl, ⟨ws, rfl, rfl, q⟩, h.run t⟩⟩
theorem aue_C {A : Au ρ} {E : En ρ'} {n : Nat} {j : List α → ρ → ρ'} (h : AUE A R p E n j) : AUE (uC B A) R p (eC (sF B) E) n (fun xs γ => (γ.1, j xs γ.2)) := ⟨fun ⟨v, r, e, r1, t⟩ q => by
  subst e
  exact ⟨v, _, [], _, rfl, rfl, ⟨rfl, r1⟩, h.run t q⟩⟩
structure AUN (A : Au ρ) (n : Nat) : Prop where
  run : ∀ {F : Hp} {vs : List V} {p : Addr} {γ : ρ}, A.r F vs p γ → vs.length = n
theorem aun_H {T : Ar ρ} {n : Nat} (h : AN T n) : AUN (uH T) (n + 1) := ⟨fun ⟨r, e, t⟩ => by rw [e, List.length_cons, h.run t]⟩
theorem aun_C {A : Au ρ} {n : Nat} (h : AUN A n) : AUN (uC B A) (n + 1) := ⟨fun ⟨v, r, e, _, t⟩ => by rw [e, List.length_cons, h.run t]⟩
theorem spU_len {A : Au ρ} {m : List α → ρ → Option (List α)} {n : Nat} (h : AUN A n) : ∀ vs H Q E, spU A R m vs H Q E → vs.length = n := fun _ _ _ _ ⟨_, _, _, _, _, _, _, _, _, _, r, _⟩ => h.run r
/-- the list behind the body -/
def finU (g : ρ → List α) (x : Option (Res ρ κ β)) : Option (List α) := ob x fun r => match r with | .nxt γ => some (g γ) | _ => none
theorem finU_runX {A : Au ρ} {k n : Nat} {N : List Str} {E0 : Addr → En ρ''} {E1 : Addr → En ρ'} {j : List α → ρ → ρ''} {g : ρ' → List α} {i : Nat} {t : TS} {mm : List α → ρ → Option (List α)} {vs : List V} {H : Hp} {Q : VK} {Ex : XK} {D : Ends}
    (hA : ∀ p, AUE A R p (E0 p) n j) (hn : AUN A k) (hN : N.length = k + n) (hg : ∀ p, Gt (E1 p) i (sOA p R) g) (h : ∀ p, ∃ m : ρ'' → Option (Res ρ' Unit Unit), SS t (E0 p) (E1 p) eN (rS (sF jN)) m ∧ mm = fun xs γ => finU g (m (j xs γ))) (q : spU A R mm vs H Q Ex)
    (hD2 : D.nx = fun _ H' => Q .non H') : t D (L2.start N vs) H := by
  obtain ⟨F, p, ws, xs, γ, ys, s0, hF, hH, q1, r, e, k⟩ := q
  obtain ⟨m, hs, hm⟩ := h p
  subst hm
  obtain ⟨r1, e1, e2⟩ := ob_some e
  have hl := hn.run r
  have hs' : L2.start N vs = vs.map some ++ List.replicate n none := by
    unfold L2.start
    rw [show N.length - vs.length = n by omega]
  rw [hs']
  refine hs.run (Own.lend s0 hF hH) ((hA p).run r q1) e1 ?_
  cases r1 with
  | nxt γ' =>
    cases e2
    refine fun σ F' H' L _ O r' => ?_
    rw [hD2]
    obtain ⟨v, L1, _, h2, vs', _, h4, h5⟩ := hg p r'
    subst h4
    refine k F' H' vs' (OwnSb O ?_) h5
    obtain ⟨a, b, hab⟩ := List.append_of_mem (h2 _ List.mem_cons_self)
    rw [hab]
    exact ⟨a ++ b, (List.perm_middle (l₁ := a) (l₂ := b)).symm⟩
  | ret b => cases e2
  | cnt _ => cases e2
  | brk _ => cases e2
/-! what it tells -/
def RfU (Q : List α → Prop) (g : ρ → List α) : Res ρ κ β → Prop
  | .nxt γ => Q (g γ)
  | _ => False
theorem RfU_nxt {Q : List α → Prop} {g : ρ → List α} {γ : ρ} : RfU (κ := κ) (β := β) Q g (.nxt γ) = Q (g γ) := rfl
theorem W_finU {g : ρ → List α} {x : Option (Res ρ κ β)} {Q : List α → Prop} : W (finU g x) Q = W x (RfU Q g) := by
  unfold finU
  rw [W_ob]
  congr 1
  funext r
  cases r with
  | nxt γ => exact W_some
  | ret b => exact W_none
  | cnt γ => exact W_none
  | brk γ => exact W_none
end
end Mi

namespace Mi
open PySem PySem.Spec PyProof.Rows L2 Fw
/-! ### more constructs: low rules -/
section
variable {X : Cx} {K : PySem.W.Frag}
/-- sum of a tuple of ints -/
def rSumT (K : PySem.W.Frag) : List V → Hp → VK → Prop := fun vs H Q => ∃ (a : Addr) (ns : List Int), vs = [V.ref a] ∧ SqT K H a (ns.map V.int) ∧ Q (.int ns.sum) H
theorem sumT_ {K : PySem.W.Frag} (hc : X.calm = true) (eK : X.K = K := by rfl) : CallR X (.builtin "sum") (rSumT K) := by
  subst eK
  intro pins s σ H vs us Q I r h
  obtain ⟨a, ns, rfl, hs, q⟩ := h
  obtain ⟨its, rv, ht, _⟩ := I.tuple hs
  rw [Vals.ref1 r]
  have hi := rv.ints
  obtain ⟨xs, e⟩ := hi.allInts.items
  have hn : numsOf (intItems xs).toList = ns := by rw [← e]; exact hi.numsOf
  rw [nums_intItems] at hn
  rw [e] at ht
  have hT : s.heap.IsTuple a (intItems xs) := by
    obtain ⟨o, h1, h2, n, h3⟩ := ht
    exact ⟨o, h1, h2, n, h3⟩
  refine PySem.call_sum_walkG (PySem.wpAny_pyIter_tuple hT ?_)
  have hne : a ≠ s.heap.objs.size := by
    obtain ⟨o, h1, _⟩ := ht
    exact Nat.ne_of_lt (Heap.lt_size h1)
  refine ⟨_, _, _, _, _, _, PySem.numAt xs, rfl, PySem.Walks.tuple (A := X.A.in1) (I.ok.hd hc) _ a hne (intItems xs), ⟨⟨_, Heap.get?_push_size _ rfl, rfl, rfl⟩, hT.push _⟩, fun c hc2 => ?_, (fun _ _ => PySem.intItems_at), fun h' tk t' hk => ?_⟩
  · show c < (s.heap.push _).objs.size
    rw [Heap.size_push]
    rcases List.mem_cons.mp hc2 with rfl | hc2
    · exact Nat.lt_succ_self _
    · rcases List.mem_cons.mp hc2 with rfl | hc2
      · obtain ⟨o, h1, _⟩ := ht
        exact Nat.lt_succ_of_lt (Heap.lt_size h1)
      · cases hc2
  · have hold : ∀ c o, s.heap.get? c = some o → h'.get? c = some o := fun c o e => by
      refine hk c o (fun hm => ?_) (Heap.get?_push_of_some _ e)
      rcases List.mem_cons.mp hm with e1 | hm
      · have := Heap.lt_size e
        rw [e1] at this
        exact Nat.lt_irrefl _ this
      · cases hm
    have es : PySem.preSum (PySem.numAt xs) (intItems xs).size = ns.sum := by
      rw [show (intItems xs).size = xs.size by simp [PySem.intItems], ← hn, PySem.preSum_eq, List.take_of_length_le (by simp)]
    rw [es]
    exact ⟨.int _, H, I.kept hold, ⟨_, rfl⟩, q⟩
/-- xs[lo:hi] = .. -/
def gCut (to : TE) (tl th : TO) : TG := fun v σ H Q => to σ H fun x H1 => tl σ H1 fun l H2 => th σ H2 fun u H3 => ∃ (p b : Addr) (xs ys : List V) (a c : Int), x = .ref p ∧ v = .ref b ∧ l = some a ∧ u = some c ∧ H3 p = some (.lst xs) ∧ H3 b = some (.lst ys) ∧ p ≠ b ∧
  0 ≤ a ∧ a ≤ c ∧ c ≤ xs.length ∧ xs.length + ys.length ≤ sizeLine ∧ Q σ (upd H3 p (.lst (xs.take a.toNat ++ ys ++ xs.drop c.toNat)))
theorem pg_cut {o : Expr} {lo hi : Option Expr} {to : TE} {tl th : TO} {p2 pos : Pos} (ho : PE X o to) (hl : PO X lo tl) (hu : PO X hi th)
    (ha : ∀ v, assign (.Subscript o (.Slice lo hi none p2) pos) X.env v = (do
      let ov ← holding [v] (eval o X.env)
      let iv ← holding [v, ov] (eval (.Slice lo hi none p2) X.env)
      standAt pos
      holding [v, ov, iv] (setItem ov iv v)
      release [iv, v, ov] []) := by intro _; rfl) : PG X (.Subscript o (.Slice lo hi none p2) pos) (gCut to tl th) := by
  refine ⟨fun pins s σ H v u Q I r h => ?_⟩
  rw [ha]
  refine wpAny_bind (wpAny_holding (thn (ho.run pins s σ H _ I h) fun ov s1 ⟨x, H1, I1, r1, q1⟩ => ?_))
  refine wpAny_bind (wpAny_holding ?_)
  refine wpAny_Slice (thn (hl.run pins s1 σ H1 _ I1 q1) fun vl s2 ⟨l, H2, I2, pl, q2⟩ => thn (hu.run pins s2 σ H2 _ I2 q2) fun vu s3 ⟨u', H3, I3, pu, q3⟩ => ?_)
  rw [evalPart_none]
  refine wpAny_pure ?_
  have I4 : Inv X pins σ H3 { s3 with heap := s3.heap.push { cls := .type "slice", data := .fields #[vl, vu, .none] } } := I3.kept (t' := s3.toks) fun b ob q => Heap.get?_push_of_some _ q
  obtain ⟨p, b, xs, ys, a, c, e1, e2, e3, e4, h1, h2, hne, k1, k2, k3, hz, q⟩ := q3
  subst e1 e2 e3 e4
  have ra : RelV (.int a) vl := by
    cases pl with
    | int i t => exact ⟨t, rfl⟩
  have rc : RelV (.int c) vu := by
    cases pu with
    | int i t => exact ⟨t, rfl⟩
  cases r1
  cases r
  refine wpAny_bind (wpAny_standAt (wpAny_bind (wpAny_holding (thn (set_slice (Q := fun _ s' => ∃ H4, Inv X pins σ H4 s' ∧ Q σ H4) (s := { s3 with heap := s3.heap.push { cls := .type "slice", data := .fields #[vl, vu, .none] } }) I4 h1 h2 hne (Heap.IsSliceOf.new ..) ra rc k1 k2 k3 hz fun s' J => ⟨_, J, q⟩) fun _ s5 h5 => ?_))))
  obtain ⟨H4, J, q4⟩ := h5
  exact wpAny_release ⟨σ, H4, J, q4⟩
theorem gl_ {es : List Expr} {k : Nat} {t : TGs} {n : Nat} {pos : Pos} (hc : X.calm = true) (h : PGs X es t) (eK : X.K = K := by rfl)
    (hn : (assignEach es X.env).length = n := by rfl) (hst : (assignEach es X.env).findIdx? (·.1) = none := by rfl) : PG X (.Tuple es k pos) (gLst K n t) := by
  subst eK
  exact pg_lst hc h hn hst
/-- text.find(sign) -/
def rFind1 : V → List V → Hp → VK → Prop := fun x xs H Q => ∃ (l : List Nat) (c : Nat), x = Fw.vS l ∧ xs = [Fw.vS [c]] ∧ Q (.int (if c ∈ l then (l.idxOf c : Int) else -1)) H
theorem find_one (l : List Nat) (c : Nat) : Txt.find (S l) (S [c]) = if c ∈ l then (l.idxOf c : Int) else -1 := by
  unfold Txt.find
  by_cases h : c ∈ l
  · obtain ⟨r, e⟩ := occ_idx h
    rw [if_pos h]
    show (match Builtin.Str.occurrences (S l) (S [c]) 0 (S l).length 1 with | i :: _ => (i : Int) | [] => -1) = _
    rw [e]
  · rw [if_neg h]
    show (match Builtin.Str.occurrences (S l) (S [c]) 0 (S l).length 1 with | i :: _ => (i : Int) | [] => -1) = _
    rcases StrLaws.occ_head (S l) (S [c]) 1 (Nat.le_refl _) with ⟨e, _⟩ | ⟨i, r, e, ha, _⟩
    · rw [e]
    · have h1 := (StrLaws.subAt_one (S l) c i).mp ha
      rw [S_list] at h1
      exact absurd (List.mem_of_getElem? h1) h
theorem mt_find1 : MtR X "str.find" rFind1 := by
  intro pins s σ H x xs v us Q I rx rs h
  obtain ⟨l, c, e1, e2, q⟩ := h
  exact mt_find pins s σ H x xs v us Q I rx rs ⟨S l, S [c], e1, e2, by rw [find_one]; exact q⟩
theorem pe_find1 {o e : Expr} {apos pos : Pos} {to te : TE} (ho : PE X o to) (he : PE X e te) (hs : starEach [e] X.env = [(false, eval e X.env)] := by rfl) (hbase : attributeBase o "find" X.env (eval o X.env) = eval o X.env := by rfl) (hline : (apos.endLine == pos.line) = true := by rfl) :
    PE X (.Call (.Attribute o "find" apos) [e] [] pos) (tM1 rFind1 to te) := pe_m1 PySem.F.slot_str_find PySem.F.type_str_find mt_find1 ho he hs hbase hline
end
/-! ### their readings -/
section
variable {ρ ρ' ρ'' α β δ κ τ : Type} {E : En ρ} {E' : En ρ'} {E1 : En ρ''} {Ec : En κ} {ta tb tc te ti t : TE} {tA : TA} {A : Rp α} {B : Rp β} {R : Rp α} {K : PySem.W.Frag} {w : World} {s : RRt β} {u : TS} {m : ρ → Option (Res ρ' κ β)}
theorem sc_sumT2 : SC (rSumT K) (aC (jT (yC jI (y1 jI))) aN) (sF jI) (fun x => some (x.1.1 + x.1.2)) := sc_val fun {_ _ _ a _} s0 ⟨v, r, e1, ⟨p, vs, e3, h, v1, r1, e4, q1, v2, e5, q2⟩, e2⟩ k => by
  subst e1 e2 e3 e4 e5
  refine ⟨p, [a.1.1, a.1.2], rfl, .inl (.inl ?_), ?_⟩
  · have e := s0 _ _ h
    rw [show v1 = V.int a.1.1 from q1, show v2 = V.int a.1.2 from q2] at e
    exact e
  · have e : ([a.1.1, a.1.2] : List Int).sum = a.1.1 + a.1.2 := by simp
    rw [e]
    exact k _ rfl
/-! a module's dict of texts -/
/-- the value of a sign -/
def dget {τ : Type} (d : List (List Nat × τ)) (x : List Nat) : Option τ := (d.find? fun q => decide (q.1 = x)).map (·.2)
theorem se_kdI {a : Addr} {kvs : List (List Nat × Int)} {fa : ρ → Option (List Nat)} (hx : ∀ q ∈ kvs, KDct K w a (S q.1) (.int q.2)) (h : SE te E (sF jS) fa) : SE (tOp (rIxD K w) (tC (.ref a)) te) E (sF jI) (fun γ => ob (fa γ) fun x => dget kvs x) := ⟨fun s0 hL hE e k => by
  obtain ⟨x, e1, e⟩ := ob_some e
  unfold dget at e
  cases hf : kvs.find? (fun q => decide (q.1 = x)) with
  | none => rw [hf] at e; cases e
  | some q =>
    rw [hf] at e
    cases e
    have hq : q.1 = x := by simpa using List.find?_some hf
    refine h s0 hL hE e1 fun v F1 H1 L1 s1 ⟨z1, r1⟩ => ?_
    subst z1
    refine ⟨a, S x, .int q.2, rfl, r1.1, by rw [← hq]; exact hx q (List.mem_of_find?_eq_some hf), k _ _ _ [] s1 ⟨rfl, rfl⟩⟩⟩
theorem se_kdS {a : Addr} {kvs : List (List Nat × List Nat)} {fa : ρ → Option (List Nat)} (hx : ∀ q ∈ kvs, KDct K w a (S q.1) (Fw.vS q.2)) (hk : ∀ q ∈ kvs, okS q.2) (h : SE te E (sF jS) fa) : SE (tOp (rIxD K w) (tC (.ref a)) te) E (sF jS) (fun γ => ob (fa γ) fun x => dget kvs x) := ⟨fun s0 hL hE e k => by
  obtain ⟨x, e1, e⟩ := ob_some e
  unfold dget at e
  cases hf : kvs.find? (fun q => decide (q.1 = x)) with
  | none => rw [hf] at e; cases e
  | some q =>
    rw [hf] at e
    cases e
    have hq : q.1 = x := by simpa using List.find?_some hf
    refine h s0 hL hE e1 fun v F1 H1 L1 s1 ⟨z1, r1⟩ => ?_
    subst z1
    refine ⟨a, S x, Fw.vS q.2, rfl, r1.1, by rw [← hq]; exact hx q (List.mem_of_find?_eq_some hf), k _ _ _ [] s1 ⟨rfl, rfl, hk q (List.mem_of_find?_eq_some hf)⟩⟩⟩
/-! range(a, b, c) -/
theorem rgc_from {a b c : Int} (hc : 0 < c ∧ c < 1073741824) (ha : 0 ≤ a ∧ a < 2 ^ 61) (hb : 0 ≤ b ∧ b < 2 ^ 61) : RgC a b c (((b - a).toNat + c.toNat - 1) / c.toNat) := by
  have hs : Builtin.Range.rangeSize a b c = ((((b - a).toNat + c.toNat - 1) / c.toNat : Nat) : Int) := by
    unfold Builtin.Range.rangeSize
    rw [if_pos (by omega)]
    by_cases h : a < b
    · rw [if_pos h]
      obtain ⟨n, hn⟩ : ∃ n : Nat, b - a = (n : Int) + 1 := ⟨(b - a - 1).toNat, by omega⟩
      obtain ⟨d, hd⟩ : ∃ d : Nat, c = (d : Int) := ⟨c.toNat, by omega⟩
      subst hd
      rw [hn, show ((n : Int) + 1).toNat + ((d : Int)).toNat - 1 = n + d by omega, Int.toNat_natCast, Nat.add_div_right _ (by omega), show (n : Int) + 1 - 1 = (n : Int) by omega]
      omega
    · rw [if_neg h, Nat.div_eq_of_lt (by omega)]
      rfl
  have e : Builtin.Range.small a b c = true := by
    unfold Builtin.Range.small
    rw [hs]
    simp only [Builtin.Range.rangeFitsLong, Bool.and_eq_true, Bool.or_eq_true, decide_eq_true_eq, beq_iff_eq]
    have hd : 0 < c.toNat := by omega
    have hle : ((b - a).toNat + c.toNat - 1) / c.toNat ≤ (b - a).toNat := by
      rw [Nat.div_le_iff_le_mul hd]
      have : (b - a).toNat ≤ (b - a).toNat * c.toNat := Nat.le_mul_of_pos_right _ hd
      omega
    have hle3 : ((((b - a).toNat + c.toNat - 1) / c.toNat : Nat) : Int) * c ≤ ((b - a).toNat : Int) + c - 1 := by
      have := Nat.div_mul_le_self ((b - a).toNat + c.toNat - 1) c.toNat
      have e : c = (c.toNat : Int) := by omega
      rw [e, ← Int.natCast_mul]
      rw [Int.toNat_natCast]
      omega
    generalize ((b - a).toNat + c.toNat - 1) / c.toNat = d at hle hle3 ⊢
    refine ⟨⟨⟨⟨⟨by omega, by omega⟩, by omega, by omega⟩, by omega, by omega⟩, by omega, by omega⟩, .inr ?_⟩
    rw [if_pos (by omega), Bool.and_eq_true, decide_eq_true_eq, decide_eq_true_eq]
    omega
  exact ⟨by omega, by omega, e, hs⟩
theorem si_r3 {f : ρ → Option (Int × Int × Int × Unit)} (h : SA tA E (aC jI (aC jI (aC jI aN))) f) : SI (iRng3 tA) E jI (fun γ => ob (f γ) fun x => pck ((0 ≤ x.1 ∧ x.1 < 2305843009213693952) ∧ (0 ≤ x.2.1 ∧ x.2.1 < 2305843009213693952) ∧ 0 < x.2.2.1 ∧ x.2.2.1 < 1073741824) (prangeC x.1 x.2.2.1 (((x.2.1 - x.1).toNat + x.2.2.1.toNat - 1) / x.2.2.1.toNat))) where
  run s0 hL he e k := by
    obtain ⟨x, e1, e⟩ := ob_some e
    obtain ⟨p, rfl⟩ := pck_some e
    refine h s0 hL he e1 fun vs F1 H1 s1 ⟨v, r, z1, r1, v2, r', z2, r2, v3, r'', z3, r3, z4⟩ => ?_
    subst z1 z2 z3 z4
    exact ⟨x.1, x.2.1, x.2.2.1, _, by rw [show v = .int x.1 from r1, show v2 = .int x.2.1 from r2, show v3 = .int x.2.2.1 from r3], rgc_from p.2.2 p.1 p.2.1, k _ _ _ s1 itc_ok⟩
/-! find -/
def pfind (x y : List Nat) : Option Int := match y with | [c] => some (if c ∈ x then (x.idxOf c : Int) else -1) | _ => none
theorem sm_find : SM rFind1 jS jS (sF jI) (fun x y => pfind x y) := ⟨fun {_ _ _ _ x y _ _} s0 r1 r2 e k => by
  match y, r2, e with
  | [c], r2, e =>
    cases e
    exact ⟨x, c, r1.1, by rw [show _ = Fw.vS [c] from r2.1], k _ _ _ [] (Step.nil s0) ⟨rfl, rfl⟩⟩⟩
/-! lists of two, taken apart -/
def jP2 (A : Rp α) : Rp (α × α) := ⟨fun F v x => ∃ a v1 v2, v = .ref a ∧ F a = some (.lst [v1, v2]) ∧ A.r F v1 x.1 ∧ A.r F v2 x.2, fun s ⟨a, v1, v2, e, h, p, q⟩ => ⟨a, v1, v2, e, s _ _ h, A.m s p, A.m s q⟩⟩
def ptwo {τ : Type} : List (List τ) → Option (List (τ × τ))
  | [] => some []
  | [x, y] :: r => ob (ptwo r) fun q => some ((x, y) :: q)
  | _ :: _ => none
theorem two_of {F : Hp} : ∀ {vs : List V} {xs : List (List α)} {ys : List (α × α)}, Paired ((jL A).r F) vs xs → ptwo xs = some ys → Paired ((jP2 A).r F) vs ys
  | _, _, _, .nil, e => by cases e; exact .nil
  | _, [] :: _, _, .cons _ _, e => nomatch e
  | _, [_] :: _, _, .cons _ _, e => nomatch e
  | _, [x, y] :: xs, ys, .cons ⟨a, us, e1, h, p⟩ t, e => by
    obtain ⟨q, e2, e⟩ := ob_some (show (ob (ptwo xs) fun q => some ((x, y) :: q)) = some ys from e)
    cases e
    cases p with
    | cons r1 p => cases p with
      | cons r2 p =>
        cases p
        exact .cons ⟨a, _, _, e1, h, r1, r2⟩ (two_of t e2)
  | _, (_ :: _ :: _ :: _) :: _, _, .cons _ _, e => nomatch e
theorem si_list2 {f : ρ → Option (List (List α))} (h : SE te E (sF (jL (jL A))) f) : SI (iList K te) E (jP2 A) (fun γ => ob (f γ) ptwo) where
  run s0 hL he e k := by
    obtain ⟨x, e1, e⟩ := ob_some e
    refine h s0 hL he e1 fun v F1 H1 L1 s1 ⟨z1, a, vs, e2, h2, p⟩ => ?_
    subst z1 e2
    exact ⟨a, rfl, ⟨vs, .inl (.inl (s1.fh _ _ h2))⟩, k _ _ _ s1 (itl_ok (.inl (.inl h2)) (two_of p e))⟩
theorem sg_lst2 {gs : TGs} {is : List Nat} {u : α × α → ρ → ρ'} (h : SGs gs is E (yC A (y1 A)) E' u) : SG (gLst K 2 gs) is E (jP2 A) E' u := ⟨fun s0 he ⟨a, v1, v2, e, r, p, q⟩ k =>
  ⟨a, _, e, .inl (.inl (s0 _ _ r)), rfl, h s0 he ⟨v1, [v2], rfl, p, v2, rfl, q⟩ k⟩⟩
/-! own things within own things, read -/
theorem se_plIx {f : ρ → Option (List α)} {up : ρ → List α → Option τ} {pt : τ → ρ → ρ} {fi : ρ → Option Int} (ht : SPl t E (sD (sF R)) f up pt) (hi : SE ti E (sF jI) fi) : SE (tOp (rIxL K) t ti) E (sF R) (fun γ => ob (f γ) fun xs => ob (fi γ) fun i => pat xs i) := ⟨fun {σ F H L γ y Q} s0 hL hE e k => by
  refine (pl_ix (K := K) ht hi).run s0 hL hE e fun v F' H' st ⟨pre, L1, post, h1, ⟨z, r⟩, _⟩ => ?_
  subst z
  exact k v F' H' [] st ⟨rfl, r⟩⟩
theorem se_plLen {s1 : Sl α} {f : ρ → Option (List α)} {up : ρ → List α → Option τ} {pt : τ → ρ → ρ} (ht : SPl t E (sD s1) f up pt) : SE (tCB (rLenQ K) (tCons t tNil)) E (sF jI) (fun γ => ob (f γ) fun xs => some (xs.length : Int)) := ⟨fun {σ F H L γ y Q} s0 hL hE e k => by
  obtain ⟨xs, e1, e⟩ := ob_some e
  cases e
  refine ht.run s0 hL hE e1 fun v F1 H1 st1 ⟨pre, L1, post, h1, ⟨p, vs, M, h2, h3, h4⟩, h5⟩ => ?_
  subst h2 h3
  have hp := st1.hh _ _ (hL (p, .lst vs) (by rw [h1]; simp))
  refine ⟨p, vs, rfl, .inl (.inl (.inl hp)), ?_⟩
  rw [h4.len]
  exact k _ _ _ [] st1 ⟨rfl, rfl⟩⟩
/-! xs[a:c] = ys -/
theorem ss_cut {i : Nat} {R : Rp α} {g : ρ → List α} {up : List α → ρ → ρ} {fe : ρ → Option (List α)} {fa fc : ρ → Option Int} (hu' : Up E i R g up) (he : SE te E (sO R) fe) (hl : SE ta E (sF jI) fa) (hh : SE tc E (sF jI) fc) (hu : SS u E E' Ec s m) :
    SS (tSeq (tAsg te (gCut (tVar i) (tPart ta) (tPart tc))) u) E E' Ec s (fun γ => ob (fe γ) fun ys => ob (fa γ) fun a => ob (fc γ) fun c => ob (pck ((0 ≤ a ∧ a ≤ c ∧ c ≤ ((g γ).length : Int)) ∧ (g γ).length + ys.length ≤ sz) ((g γ).take a.toNat ++ ys ++ (g γ).drop c.toNat)) fun zs => m (up zs γ)) := ⟨fun O hE e fin => by
  obtain ⟨ys, e1, e⟩ := ob_some e
  obtain ⟨a, e2, e⟩ := ob_some e
  obtain ⟨c, e3, e⟩ := ob_some e
  obtain ⟨zs, e4, e⟩ := ob_some e
  obtain ⟨⟨⟨k1, k2, k3⟩, k4⟩, rfl⟩ := pck_some e4
  refine he O.fh (Held.of O) hE e1 fun v F1 H1 L1 s1 ⟨b, us, z1, z2, r1⟩ => ?_
  subst z1 z2
  have O1 := Own.on O s1
  obtain ⟨p, vs, j, h1, h2, h3, h4⟩ := hu' (E.m s1.f0 hE)
  refine ⟨.ref p, h1, ?_⟩
  refine hl O1.fh (fun q hq => (Held.of O1) q (List.mem_append_right _ hq)) (E.m s1.f0 hE) e2 fun w2 F2 H2 L2 s2 ⟨z2, r2⟩ => ?_
  subst z2
  have O2 := Own.on O1 s2
  rw [List.nil_append] at O2
  refine ⟨a, r2, ?_⟩
  refine hh O2.fh (fun q hq => (Held.of O2) q (List.mem_append_right _ hq)) (E.m (s1.f0.trans s2.f0) hE) e3 fun w3 F3 H3 L3 s3 ⟨z3, r3⟩ => ?_
  subst z3
  have O3 := Own.on O2 s3
  rw [List.nil_append] at O3
  refine ⟨c, r3, ?_⟩
  have hl1 := Paired.len h3
  have hl2 := Paired.len r1
  have hne : p ≠ b := fun z => by
    have nd := O3.nd
    rw [List.singleton_append, List.map_cons] at nd
    have := (List.nodup_cons.mp nd).1
    exact this (List.mem_map.mpr ⟨(p, .lst vs), List.mem_of_getElem? h2, z⟩)
  have O4 := O3.set (i := j + 1) (a := p) (o := .lst vs) (by rw [List.singleton_append, List.getElem?_cons_succ]; exact h2) (.lst (vs.take a.toNat ++ us ++ vs.drop c.toNat))
  rw [List.singleton_append, List.set_cons_succ] at O4
  refine ⟨p, b, vs, us, a, c, rfl, rfl, rfl, rfl, O3.at_ (j + 1) (by rw [List.singleton_append, List.getElem?_cons_succ]; exact h2), O3.at_ 0 rfl, hne, k1, k2, by rw [hl1]; exact k3, sz_le (by rw [hl1, hl2]; exact k4), ?_⟩
  have sF := (s1.f0.trans s2.f0).trans s3.f0
  refine hu.run (OwnSb O4 (Sb.dropL [(b, HO.lst us)] _)) (h4 F3 _ _ (s2.f0.trans s3.f0) ?_) e (fin.mo sF)
  have q1 : Paired (R.r F3) vs (g _) := Paired.mono (fun _ _ q => R.m (s2.f0.trans s3.f0) q) h3
  have q2 : Paired (R.r F3) us ys := Paired.mono (fun _ _ q => R.m (s2.f0.trans s3.f0) q) r1
  exact Paired.app (Paired.app (Paired.tk _ q1) q2) (Paired.dp _ q1)⟩
end
end Mi

namespace Mi
open PySem PySem.Spec PyProof.Rows L2 Fw
/-! ### lent lists, results that name no frozen thing -/
theorem Step.weak {F H F' H' : Hp} {L : List (Addr × HO)} (s0 : Same F H) (s : Step H H F' H' L) : Step F H F H' L :=
  ⟨Same.refl _, s0.trans s.hh, s.hh, fun _ _ h => .inl h, fun q hq => let ⟨_, h2, h3⟩ := s.own q hq; ⟨s0.free h2, h2, h3⟩, s.nd, trivial⟩
section
variable {ρ ρ' ρ'' α β δ κ τ : Type} {E : En ρ} {E' : En ρ'} {E1 : En ρ''} {Ec : En κ} {ta tb tc te t : TE} {tA : TA} {A : Rp α} {D : Rp δ} {K : PySem.W.Frag} {u : TS}
structure ScalS (s : Sl α) : Prop where
  run : ∀ {F F' : Hp} {v : V} {L : List (Addr × HO)} {x : α}, s.r v F L x → s.r v F' L x
theorem scsF (h : Scal A) : ScalS (sF A) := ⟨fun ⟨e, r⟩ => ⟨e, h.run r⟩⟩
theorem scsO (h : Scal A) : ScalS (sO A) := ⟨fun ⟨p, vs, e, h1, q⟩ => ⟨p, vs, e, h1, Paired.mono (fun _ _ q => h.run q) q⟩⟩
theorem se_callRS {a : Ar α} {s : Sl β} {f : ρ → Option α} {m : α → Option β} {Ex : XK} (h : SRA tA E a f) (hd : ScalS s) : SE (tCall (spM a s m) [] Ex tA) E s (fun γ => ob (f γ) m) := ⟨fun s0 hL he e k => by
  obtain ⟨x, e1, e⟩ := ob_some e
  rw [q_call]
  exact h.run s0 hL he e1 fun vs F1 H1 s1 r1 => ⟨H1, x, _, Same.refl _, r1, e, fun v F' H' L s2 r2 => k v F1 H' L (s1.tr (Step.weak s1.fh s2)) (hd.run r2)⟩⟩
end
/-! ### exceptions -/
/-- class, line, column -/
abbrev Exn := Nat × Int × Int
def exN : Nat → Str
  | 0 => "InvalidLine"
  | 1 => "InvalidPack"
  | 2 => "NotAnIndex"
  | 3 => "Truncated"
  | 4 => "Damaged"
  | _ => "HomeError"
def exR (K : PySem.W.Frag) (e : Exn) (cls : Value) (d : Option Addr) (F : Hp) : Prop := cls = .ref (He.ga K (exN e.1)) ∧
  ((e.1 = 0 ∧ ∃ dd fs, d = some dd ∧ F dd = some (.xd fs) ∧ fs.lookup ("line" : Str) = some (V.int e.2.1) ∧ fs.lookup ("column" : Str) = some (V.int e.2.2)) ∨ (e.1 ≠ 0 ∧ d = none))
theorem exR.mono {K : PySem.W.Frag} {e : Exn} {cls : Value} {d : Option Addr} {F F' : Hp} (s : Same F F') (h : exR K e cls d F) : exR K e cls d F' := by
  obtain ⟨h1, h2 | h2⟩ := h
  · obtain ⟨h0, dd, fs, a, b, c⟩ := h2
    exact ⟨h1, .inl ⟨h0, dd, fs, a, s _ _ b, c⟩⟩
  · exact ⟨h1, .inr h2⟩
/-- what a raise wishes -/
def rX {β : Type} (K : PySem.W.Frag) (E : XK) (R : RRt β) : RRt (Except Exn β) := ⟨fun F0 H0 Fs Q r => match r with
  | .ok b => R.fin F0 H0 Fs Q b
  | .error e => ∀ cls d F H, Same Fs F → Own F0 H0 F H [] [] → exR K e cls d F → E cls d H, fun {_ _ _ _ _ b} h sF => by
    cases b with
    | ok b => exact R.mo h sF
    | error e => exact fun cls d F H s2 => h cls d F H (sF.trans s2)⟩
section
variable {ρ ρ' ρ'' α β δ κ τ : Type} {E : En ρ} {E' : En ρ'} {E1 : En ρ''} {Ec : En κ} {ta tb tc te t : TE} {tA : TA} {A : Rp α} {B : Rp β} {D : Rp δ} {K : PySem.W.Frag} {u : TS} {W : WX} {s : Sl α} {R : RRt β} {E0 : XK}
def obx {α β : Type} (x : Option (Except Exn α)) (f : α → Option (Except Exn β)) : Option (Except Exn β) := ob x fun r => match r with
  | .ok a => f a
  | .error e => some (.error e)
def rbx {α ρ κ β : Type} (x : Option (Except Exn α)) (f : α → Option (Res ρ κ (Except Exn β))) : Option (Res ρ κ (Except Exn β)) := ob x fun r => match r with
  | .ok a => f a
  | .error e => some (.ret (.error e))
def okx {α : Type} : Except Exn α → Option α
  | .ok a => some a
  | .error _ => none
/-- called with such arguments, it hands back what the mirror tells, or raises it -/
def spX (K : PySem.W.Frag) (A : Ar ρ) (s : Sl β) (m : ρ → Option (Except Exn β)) : Sp := fun vs H Q E => ∃ F γ b, Same F H ∧ A.r F vs γ ∧ m γ = some b ∧ match b with
  | .ok b => ∀ v F' H' L, Step F H F' H' L → s.r v F' L b → Q v H'
  | .error e => ∀ cls d F' H', Step F H F' H' [] → exR K e cls d F' → E cls d H'
def spUX (K : PySem.W.Frag) (A : Au ρ) (R : Rp α) (m : List α → ρ → Option (Except Exn (List α))) : Sp := fun vs H Q E => ∃ F p ws xs γ b, Same F H ∧ F p = none ∧ H p = some (.lst ws) ∧ Paired (R.r F) ws xs ∧ A.r F vs p γ ∧ m xs γ = some b ∧ match b with
  | .ok ys => ∀ F' H' ws', Own F (cutH H p) F' H' [(p, .lst ws')] [] → Paired (R.r F') ws' ys → Q .non H'
  | .error e => ∀ cls d F' H', Own F (cutH H p) F' H' [] [] → exR K e cls d F' → E cls d H'
structure SEX (K : PySem.W.Frag) (W : WX) (t : TE) (E : En ρ) (s : Sl α) (f : ρ → Option (Except Exn α)) : Prop where
  run : ∀ {σ : L2.St} {F H : Hp} {L : List (Addr × HO)} {γ : ρ} {x : Except Exn α} {Q : VK}, Same F H → Held H L → E.r σ F L γ → f γ = some x → (match x with
    | .ok x => ∀ v F' H' L1, Step F H F' H' L1 → s.r v F' L1 x → Q v H'
    | .error e => ∀ cls d F' H', Step F H F' H' [] → exR K e cls d F' → W cls d σ H') → t σ H Q
theorem sx_call {a : Ar δ} {f : ρ → Option δ} {m : δ → Option (Except Exn α)} (h : SA tA E a f) : SEX K W (tCallS (spX K a s m) (WE W) tA) E s (fun γ => ob (f γ) m) := ⟨fun {σ F H L γ x Q} s0 hL he e k => by
  obtain ⟨y, e1, e⟩ := ob_some e
  show tA σ H fun vs H1 => spX K a s m vs H1 Q (WE W σ)
  refine h s0 hL he e1 fun vs F1 H1 s1 r1 => ⟨F1, y, x, s1.fh, r1, e, ?_⟩
  cases x with
  | ok x => exact fun v F' H' L s2 r2 => k v F' H' L (s1.tr s2) r2
  | error er => exact fun cls d F' H' s2 r2 => k cls d F' H' (s1.tr s2) r2⟩
/-- where it can't raise -/
theorem se_callX {a : Ar δ} {f : ρ → Option δ} {m : δ → Option (Except Exn α)} {Ex : XK} (h : SA tA E a f) : SE (tCall (spX K a s m) [] Ex tA) E s (fun γ => ob (f γ) fun x => ob (m x) okx) := ⟨fun s0 hL he e k => by
  obtain ⟨x, e1, e⟩ := ob_some e
  obtain ⟨r, e2, e⟩ := ob_some e
  rw [q_call]
  refine h s0 hL he e1 fun vs F1 H1 s1 r1 => ⟨F1, x, r, s1.fh, r1, e2, ?_⟩
  cases r with
  | ok y => cases e; exact fun v F' H' L s2 r2 => k v F' H' L (s1.tr s2) r2
  | error er => cases e⟩
variable {m : ρ'' → Option (Res ρ' κ (Except Exn β))} {m0 : ρ → Option (Res ρ' κ (Except Exn β))}
theorem ss_asgX {i : Nat} {fe : ρ → Option (Except Exn α)} {p : α → ρ → ρ''} (he : SEX K (fun c d _ H => E0 c d H) te E s fe) (hp : Pt E i s E1 p) (hu : SS u E1 E' Ec (rX K E0 R) m) : SS (tSeq (tAsg te (gName i)) u) E E' Ec (rX K E0 R) (fun γ => rbx (fe γ) fun x => m (p x γ)) := ⟨fun O hE e fin => by
  obtain ⟨x, e1, e⟩ := ob_some e
  refine he.run O.fh (Held.of O) hE e1 ?_
  cases x with
  | ok x =>
    refine fun v F1 H1 L1 s1 r1 => ?_
    obtain ⟨L', h1, h2⟩ := hp (E.m s1.f0 hE) r1
    exact hu.run (OwnSb (Own.on O s1) h2) h1 e (fin.mo s1.f0)
  | error er =>
    cases e
    exact fun cls d F1 H1 s1 r1 => fin cls d F1 H1 s1.f0 (OwnSb (Own.on O s1) (Sb.nil _)) r1⟩
theorem ss_asgGX {g : TG} {is : List Nat} {fe : ρ → Option (Except Exn α)} {p : α → ρ → ρ''} (he : SEX K (fun c d _ H => E0 c d H) te E (sF A) fe) (hp : SG g is E A E1 p) (hu : SS u E1 E' Ec (rX K E0 R) m) : SS (tSeq (tAsg te g) u) E E' Ec (rX K E0 R) (fun γ => rbx (fe γ) fun x => m (p x γ)) := ⟨fun O hE e fin => by
  obtain ⟨x, e1, e⟩ := ob_some e
  refine he.run O.fh (Held.of O) hE e1 ?_
  cases x with
  | ok x =>
    refine fun v F1 H1 L1 s1 ⟨z1, r1⟩ => ?_
    subst z1
    have O1 := Own.on O s1
    rw [List.nil_append] at O1
    exact hp O1.fh (E.m s1.f0 hE) r1 fun σ' L' hb he' _ => hu.run (OwnSb O1 hb) he' e (fin.mo s1.f0)
  | error er =>
    cases e
    exact fun cls d F1 H1 s1 r1 => fin cls d F1 H1 s1.f0 (OwnSb (Own.on O s1) (Sb.nil _)) r1⟩
theorem ss_exprX {fe : ρ → Option (Except Exn α)} (he : SEX K (fun c d _ H => E0 c d H) te E s fe) (hu : SS u E E' Ec (rX K E0 R) m0) : SS (tSeq (tDrop te) u) E E' Ec (rX K E0 R) (fun γ => rbx (fe γ) fun _ => m0 γ) := ⟨fun O hE e fin => by
  obtain ⟨x, e1, e⟩ := ob_some e
  refine he.run O.fh (Held.of O) hE e1 ?_
  cases x with
  | ok x => exact fun v F1 H1 L1 s1 r1 => hu.run (OwnSb (Own.on O s1) (Sb.dropL _ _)) (E.m s1.f0 hE) e (fin.mo s1.f0)
  | error er =>
    cases e
    exact fun cls d F1 H1 s1 r1 => fin cls d F1 H1 s1.f0 (OwnSb (Own.on O s1) (Sb.nil _)) r1⟩
theorem ss_retX {sl : Sl β} {fe : ρ → Option β} (he : SE te E sl fe) : SS (tRet te) E E' Ec (rX K E0 (rS sl)) (fun γ => ob (fe γ) fun x => some (.ret (.ok x))) := ⟨fun O hE e fin => by
  obtain ⟨x, e1, e⟩ := ob_some e
  cases e
  refine he O.fh (Held.of O) hE e1 fun v F1 H1 L1 s1 r1 => ?_
  exact fin v F1 H1 L1 s1.f0 (OwnSb (Own.on O s1) (Sb.dropR _ _)) r1⟩
theorem ss_retOX {i : Nat} {S : Rp α} {g : ρ → List α} (hg : Gt E i (sO S) g) : SS (tRet (tVar i)) E E' Ec (rX K E0 (rS (sO S))) (fun γ => some (.ret (.ok (g γ)))) := ⟨fun {_ _ _ F H L _ _ _} O hE e fin => by
  cases e
  obtain ⟨v, L1, h1, h2, p, vs, h3, h4, h5⟩ := hg hE
  subst h3 h4
  obtain ⟨a, b, hab⟩ := List.append_of_mem (h2 _ List.mem_cons_self)
  refine ⟨_, h1, fin _ F H [(p, .lst vs)] (Same.refl _) (OwnSb O ?_) ⟨p, vs, rfl, rfl, h5⟩⟩
  rw [hab]
  exact ⟨a ++ b, (List.perm_middle (l₁ := a) (l₂ := b)).symm⟩⟩
/-- raise of a class without an __init__ of its own -/
theorem ss_raise0 (c : Nat) (hc : c ≠ 0) {C : Addr} (hC : C = He.ga K (exN c)) : SS (fun _ σ H => (fun (_ : L2.St) (H : Hp) (Q : XK) => Q (.ref C) none H) σ H fun cls d H' => (fun c d (_ : L2.St) H => E0 c d H : WX) cls d σ H') E E' Ec (rX K E0 R) (fun _ => some (.ret (.error (c, 0, 0)))) := ⟨fun {σ F0 H0 F H L γ r D} O hE e fin => by
  cases e
  exact fin (.ref C) none F H (Same.refl _) (OwnSb O (Sb.nil _)) ⟨by rw [hC], .inr ⟨hc, rfl⟩⟩⟩
/-- a call that changes an own list, or raises -/
theorem ss_callUX {a : Au δ} {T : Rp τ} {i : Nat} {g : ρ → List τ} {up : List τ → ρ → ρ} {f : ρ → Option δ} {mc : List τ → δ → Option (Except Exn (List τ))} (hu' : Up E i T g up) (ha : SAu tA E i a f) (hu : SS u E E' Ec (rX K E0 R) m0) :
    SS (tSeq (tDrop (tCallS (spUX K a T mc) (WE fun c d _ H => E0 c d H) tA)) u) E E' Ec (rX K E0 R) (fun γ => ob (f γ) fun y => rbx (mc (g γ) y) fun ys => m0 (up ys γ)) := ⟨fun {σ F0 H0 F H L γ r D} O hE e fin => by
  obtain ⟨y, e1, e⟩ := ob_some e
  obtain ⟨x, e2, e⟩ := ob_some e
  obtain ⟨p, ws, j, h1, h2, h3, h4⟩ := hu' hE
  show tA σ H fun vs H1 => spUX K a T mc vs H1 (fun _ H2 => u D σ H2) (WE (fun c d _ H => E0 c d H) σ)
  refine ha.run O.fh (Held.of O) hE h1 e1 fun vs F1 H1 s1 r1 => ?_
  have O1 := Own.on O s1
  rw [List.nil_append] at O1
  refine ⟨F1, p, ws, g γ, y, x, O1.fh, (O1.own _ (List.mem_of_getElem? h2)).1, O1.at_ j h2, Paired.mono (fun _ _ q => T.m s1.f0 q) h3, r1, e2, ?_⟩
  cases x with
  | ok ys =>
    refine fun F2 H2 ws2 c q2 => ?_
    have O2 := Own.lent O1 h2 c
    exact hu.run O2 (h4 F2 _ _ (s1.f0.trans c.f0) q2) e (fin.mo (s1.f0.trans c.f0))
  | error er =>
    cases e
    refine fun cls d F2 H2 c q2 => fin cls d F2 H2 (s1.f0.trans c.f0) ?_ q2
    have hH0 := (O1.own _ (List.mem_of_getElem? h2)).2.1
    have hc : ∀ b u, b ≠ p → H1 b = some u → H2 b = some u := fun b u n e => c.hh b u (by rw [cutH_ne n]; exact e)
    refine ⟨O1.f0.trans c.f0, c.fh, fun b u e => hc b u (ne_of_none e hH0) (O1.hh b u e), fun b u h => ?_, fun _ h => (nomatch h), List.nodup_nil, trivial⟩
    rcases c.new b u h with h | h
    · exact O1.new b u h
    · by_cases hb : b = p
      · subst hb
        exact .inr hH0
      · rw [cutH_ne hb] at h
        exact .inr (O1.hh.free h)⟩
/-! a try around a call -/
def sE (K : PySem.W.Frag) (a : Addr) (cls : Value) (d : Option Addr) : Sl Exn := ⟨fun v F L e => v = .ref a ∧ L = [] ∧ exR K e cls d F, fun s ⟨h1, h2, h3⟩ => ⟨h1, h2, h3.mono s⟩⟩
theorem ss_try {ρ2 : Type} {E2 : Addr → Value → Option Addr → En ρ2} {a : Ar δ} {C : Addr} {i j : Nat} {ts : Addr → Value → Option Addr → TS} {Wout : WX} {f : ρ → Option δ} {mc : δ → Option (Except Exn α)} {p : α → ρ → ρ''} {pe : Exn → ρ → ρ2} {R' : RRt τ} {mm : ρ'' → Option (Res ρ' κ τ)} {ms : ρ2 → Option (Res Unit Unit τ)} {E4 : Addr → Value → Option Addr → En Unit}
    (hx : ∀ c, PySem.W.exmOne K (.ref (He.ga K (exN c))) (.ref C) = some true) (ha : SA tA E a f) (hp : Pt E j s E1 p) (hu : SS u E1 E' Ec R' mm) (hpe : ∀ a cls d, Pt E i (sE K a cls d) (E2 a cls d) pe) (hs : ∀ a cls d, SS (ts a cls d) (E2 a cls d) (E4 a cls d) eN R' ms) :
    SS (fun D σ H => tSeq (tAsg (tCallS (spX K a s mc) (WE (wAs K (.ref C) i ts Wout D)) tA) (gName j)) u D σ H) E E' Ec R'
      (fun γ => ob (f γ) fun x => ob (mc x) fun r => match r with | .ok y => mm (p y γ) | .error e => ob (Mi.fin (ms (pe e γ))) fun b => some (.ret b)) := ⟨fun {σ F0 H0 F H L γ r D} O hE e fin => by
  obtain ⟨y, e1, e⟩ := ob_some e
  obtain ⟨x, e2, e⟩ := ob_some e
  show tA σ H fun vs H1 => spX K a s mc vs H1 (fun v H2 => u D (σ.set j (some v)) H2) (WE (wAs K (.ref C) i ts Wout D) σ)
  refine ha O.fh (Held.of O) hE e1 fun vs F1 H1 s1 r1 => ⟨F1, y, x, s1.fh, r1, e2, ?_⟩
  have O1 := Own.on O s1
  rw [List.nil_append] at O1
  cases x with
  | ok x =>
    refine fun v F2 H2 L2 s2 r2 => ?_
    obtain ⟨L', h1, h2⟩ := hp (E.m (s1.f0.trans s2.f0) hE) r2
    exact hu.run (OwnSb (Own.on O1 s2) h2) h1 e (fin.mo (s1.f0.trans s2.f0))
  | error er =>
    refine fun cls d F2 H2 s2 r2 => ?_
    have hcl : cls = .ref (He.ga K (exN er.1)) := r2.1
    refine ⟨true, by rw [hcl]; exact hx er.1, fun _ a na => ?_, fun z => nomatch z⟩
    obtain ⟨b, e3, e⟩ := ob_some e
    cases e
    obtain ⟨r3, e4, e5⟩ := ob_some e3
    have O2 := Own.on O1 s2
    rw [List.nil_append] at O2
    obtain ⟨L', h1, h2⟩ := (hpe a cls d).run (v := .ref a) (L1 := []) (x := er) (E.m (s1.f0.trans s2.f0) hE) ⟨rfl, rfl, r2⟩
    refine (hs a cls d).run (OwnSb O2 h2) h1 e4 ?_
    cases r3 with
    | ret b2 =>
      cases e5
      exact R'.mo fin (s1.f0.trans s2.f0)
    | nxt _ => cases e5
    | cnt _ => cases e5
    | brk _ => cases e5⟩
end
/-! ### defs that raise -/
section
variable {ρ ρ' ρ'' α β : Type} {E : En ρ} {E' : En ρ'} {K : PySem.W.Frag} {t : TS}
def DnX (P : Program) (w : World) (K : PySem.W.Frag) (mg : Str → Option Value) (base : Heap) (k : Nat) (f : Addr) (ps : List Str) (sp : Sp) : Prop :=
  ∃ fd, FnOk P w K mg base (L2.CX P w) k f fd ps sp ∧ Binds K fd ps [] ∧ PySem.W.keepIn K (.ref f) = true ∧ Lk K f fd
theorem dnx_mk {P : Program} {w : World} {mg : Str → Option Value} {base : Heap} {x q : Str} {st : Stmt} {f : Addr} {N ps : List Str} {k : Nat} {sp : Sp} (F : ∃ fd, FnP K x q st f fd) (S : FnScope N ps (defScope st))
    (hb : ∀ (kV doc pm : Value) (an : Option Addr) (cdv ct : Value) (us : List Value), us.length = ps.length → bindArgs (PySem.W.fnOf x q (defArgs st) (defBody st) (defScope st) .none kV doc pm an cdv ct) ⟨us, []⟩ = pure (ps.zip us))
    (len : ∀ vs H Q E, sp vs H Q E → vs.length = ps.length)
    (hbody : ∀ (cdv : Value) (A : Around) (outer : List Env) (s : Shared) (H : Hp) (vs : List V) (Q : VK) (E : XK), Room k (A.deeper (envOfC q (defScope st) s.heap.objs.size f cdv)) → sp vs H Q E →
      ∃ t, PSs (cxOf (L2.CX P w) P w K mg base N q (defScope st) f cdv A outer s H E) (defBody st) t ∧ t ⟨fun _ H' => Q .non H', Q, fun _ _ => False, fun _ _ => False⟩ (start N vs) H) : DnX P w K mg base (k + 1) f ps sp := by
  obtain ⟨fd, F⟩ := F
  refine ⟨fd, F.ok S len fun cdv A outer s H vs Q E hr hsp => ?_, F.bindsN hb, F.kp, lk_of F⟩
  obtain ⟨t, h, q⟩ := hbody cdv A outer s H vs Q E hr hsp
  exact ⟨t, h, q⟩
theorem spX_len {a : Ar ρ} {sl : Sl β} {m : ρ → Option (Except Exn β)} {n : Nat} (h : AN a n) : ∀ vs H Q E, spX K a sl m vs H Q E → vs.length = n := fun _ _ _ _ ⟨_, _, _, _, r, _⟩ => h.run r
theorem spUX_len {A : Au ρ} {T : Rp α} {m : List α → ρ → Option (Except Exn (List α))} {n : Nat} (h : AUN A n) : ∀ vs H Q E, spUX K A T m vs H Q E → vs.length = n := fun _ _ _ _ ⟨_, _, _, _, _, _, _, _, _, _, r, _⟩ => h.run r
theorem finX_runX {a : Ar ρ} {sl : Sl β} {n k : Nat} {N : List Str} {mm : ρ → Option (Except Exn β)} {vs : List V} {H : Hp} {Q : VK} {Ex : XK} {D : Ends} (hA : AE a E n) (hn : AN a k) (hN : N.length = k + n) (h : ∃ m : ρ → Option (Res ρ' Unit (Except Exn β)), SS t E E' eN (rX K Ex (rS sl)) m ∧ mm = fun γ => Mi.fin (m γ))
    (q : spX K a sl mm vs H Q Ex) (hD : D.rt = Q) : t D (L2.start N vs) H := by
  obtain ⟨m, hs, hm⟩ := h
  obtain ⟨F, γ, b, s0, r, e, k⟩ := q
  subst hm
  obtain ⟨r1, e1, e2⟩ := ob_some e
  have hl := hn.run r
  have hs' : L2.start N vs = vs.map some ++ List.replicate n none := by
    unfold L2.start
    rw [show N.length - vs.length = n by omega]
  rw [hs']
  refine hs.run (Own.start s0 trivial) (hA.run r) e1 ?_
  cases r1 with
  | ret b2 =>
    cases e2
    cases b with
    | ok y => rw [← hD] at k; exact fun v F' H' L _ O r' => k v F' H' L O r'
    | error er => exact fun cls d F' H' _ O r' => k cls d F' H' O r'
  | nxt _ => cases e2
  | cnt _ => cases e2
  | brk _ => cases e2
/-- of a def that falls off its end or raises -/
def finNX {ρ κ : Type} (x : Option (Res ρ κ (Except Exn Unit))) : Option (Except Exn Unit) := ob x fun r => match r with | .ret b => some b | .nxt _ => some (.ok ()) | _ => none
theorem finNX_runX {a : Ar ρ} {n k : Nat} {N : List Str} {mm : ρ → Option (Except Exn Unit)} {vs : List V} {H : Hp} {Q : VK} {Ex : XK} {D : Ends} (hA : AE a E n) (hn : AN a k) (hN : N.length = k + n) (h : ∃ m : ρ → Option (Res ρ' Unit (Except Exn Unit)), SS t E E' eN (rX K Ex (rS (sF jN))) m ∧ mm = fun γ => finNX (m γ))
    (q : spX K a (sF jN) mm vs H Q Ex) (hD : D.rt = Q) (hD2 : D.nx = fun _ H' => Q .non H') : t D (L2.start N vs) H := by
  obtain ⟨m, hs, hm⟩ := h
  obtain ⟨F, γ, b, s0, r, e, k⟩ := q
  subst hm
  obtain ⟨r1, e1, e2⟩ := ob_some e
  have hl := hn.run r
  have hs' : L2.start N vs = vs.map some ++ List.replicate n none := by
    unfold L2.start
    rw [show N.length - vs.length = n by omega]
  rw [hs']
  refine hs.run (Own.start s0 trivial) (hA.run r) e1 ?_
  cases r1 with
  | ret b2 =>
    cases e2
    cases b with
    | ok y => rw [← hD] at k; exact fun v F' H' L _ O r' => k v F' H' L O r'
    | error er => exact fun cls d F' H' _ O r' => k cls d F' H' O r'
  | nxt _ =>
    cases e2
    exact fun σ F' H' L _ O r' => by rw [hD2]; exact k .non F' H' [] (OwnSb O (Sb.nil _)) ⟨rfl, rfl⟩
  | cnt _ => cases e2
  | brk _ => cases e2
def finUX {ρ κ : Type} (g : ρ → List α) (x : Option (Res ρ κ (Except Exn Unit))) : Option (Except Exn (List α)) := ob x fun r => match r with | .nxt γ => some (.ok (g γ)) | .ret (.error e) => some (.error e) | _ => none
theorem finUX_runX {A : Au ρ} {T : Rp α} {k n : Nat} {N : List Str} {E0 : Addr → En ρ''} {E1 : Addr → En ρ'} {j : List α → ρ → ρ''} {g : ρ' → List α} {i : Nat} {mm : List α → ρ → Option (Except Exn (List α))} {vs : List V} {H : Hp} {Q : VK} {Ex : XK} {D : Ends}
    (hA : ∀ p, AUE A T p (E0 p) n j) (hn : AUN A k) (hN : N.length = k + n) (hg : ∀ p, Gt (E1 p) i (sOA p T) g) (h : ∀ p, ∃ m : ρ'' → Option (Res ρ' Unit (Except Exn Unit)), SS t (E0 p) (E1 p) eN (rX K Ex (rS (sF jN))) m ∧ mm = fun xs γ => finUX g (m (j xs γ))) (q : spUX K A T mm vs H Q Ex)
    (hD2 : D.nx = fun _ H' => Q .non H') : t D (L2.start N vs) H := by
  obtain ⟨F, p, ws, xs, γ, b, s0, hF, hH, q1, r, e, k⟩ := q
  obtain ⟨m, hs, hm⟩ := h p
  subst hm
  obtain ⟨r1, e1, e2⟩ := ob_some e
  have hl := hn.run r
  have hs' : L2.start N vs = vs.map some ++ List.replicate n none := by
    unfold L2.start
    rw [show N.length - vs.length = n by omega]
  rw [hs']
  refine hs.run (Own.lend s0 hF hH) ((hA p).run r q1) e1 ?_
  cases r1 with
  | nxt γ' =>
    cases e2
    refine fun σ F' H' L _ O r' => ?_
    rw [hD2]
    obtain ⟨v, L1, _, h2, vs', _, h4, h5⟩ := hg p r'
    subst h4
    refine k F' H' vs' (OwnSb O ?_) h5
    obtain ⟨a, b, hab⟩ := List.append_of_mem (h2 _ List.mem_cons_self)
    rw [hab]
    exact ⟨a ++ b, (List.perm_middle (l₁ := a) (l₂ := b)).symm⟩
  | ret b2 =>
    cases b2 with
    | ok y => cases e2
    | error er =>
      cases e2
      exact fun cls d F' H' _ O r' => k cls d F' H' O r'
  | cnt _ => cases e2
  | brk _ => cases e2
end
/-! ### what it tells -/
section
variable {α β ρ ρ' κ : Type}
/-- of an outcome -/
def Xf (Q : Except Exn β → Prop) (f : α → Option (Except Exn β)) : Except Exn α → Prop
  | .ok a => W (f a) Q
  | .error e => Q (.error e)
theorem Xf_ok {Q : Except Exn β → Prop} {f : α → Option (Except Exn β)} {a : α} : Xf Q f (.ok a) = W (f a) Q := rfl
theorem Xf_er {Q : Except Exn β → Prop} {f : α → Option (Except Exn β)} {e : Exn} : Xf Q f (.error e) = Q (.error e) := rfl
theorem W_obx {x : Option (Except Exn α)} {f : α → Option (Except Exn β)} {Q : Except Exn β → Prop} : W (obx x f) Q = W x (Xf Q f) := by
  unfold obx
  rw [W_ob]
  congr 1
  funext r
  cases r with
  | ok a => rfl
  | error e => exact W_some
def Xr (Q : Res ρ κ (Except Exn β) → Prop) (f : α → Option (Res ρ κ (Except Exn β))) : Except Exn α → Prop
  | .ok a => W (f a) Q
  | .error e => Q (.ret (.error e))
theorem Xr_ok {Q : Res ρ κ (Except Exn β) → Prop} {f : α → Option (Res ρ κ (Except Exn β))} {a : α} : Xr Q f (.ok a) = W (f a) Q := rfl
theorem Xr_er {Q : Res ρ κ (Except Exn β) → Prop} {f : α → Option (Res ρ κ (Except Exn β))} {e : Exn} : Xr Q f (.error e) = Q (.ret (.error e)) := rfl
theorem W_rbx {x : Option (Except Exn α)} {f : α → Option (Res ρ κ (Except Exn β))} {Q : Res ρ κ (Except Exn β) → Prop} : W (rbx x f) Q = W x (Xr Q f) := by
  unfold rbx
  rw [W_ob]
  congr 1
  funext r
  cases r with
  | ok a => rfl
  | error e => exact W_some
theorem W_okx {a : α} {Q : α → Prop} : W (okx (.ok a)) Q = Q a := W_some
def RfNX (Q : Except Exn Unit → Prop) : Res ρ κ (Except Exn Unit) → Prop
  | .ret b => Q b
  | .nxt _ => Q (.ok ())
  | _ => False
theorem RfNX_ret {Q : Except Exn Unit → Prop} {b : Except Exn Unit} : RfNX (ρ := ρ) (κ := κ) Q (.ret b) = Q b := rfl
theorem RfNX_nxt {Q : Except Exn Unit → Prop} {γ : ρ} : RfNX (κ := κ) Q (.nxt γ) = Q (.ok ()) := rfl
theorem W_finNX {x : Option (Res ρ κ (Except Exn Unit))} {Q : Except Exn Unit → Prop} : W (finNX x) Q = W x (RfNX Q) := by
  unfold finNX
  rw [W_ob]
  congr 1
  funext r
  cases r with
  | nxt γ => exact W_some
  | ret b => exact W_some
  | cnt γ => exact W_none
  | brk γ => exact W_none
def RfUX (Q : Except Exn (List α) → Prop) (g : ρ → List α) : Res ρ κ (Except Exn Unit) → Prop
  | .nxt γ => Q (.ok (g γ))
  | .ret (.error e) => Q (.error e)
  | _ => False
theorem RfUX_nxt {Q : Except Exn (List α) → Prop} {g : ρ → List α} {γ : ρ} : RfUX (κ := κ) Q g (.nxt γ) = Q (.ok (g γ)) := rfl
theorem RfUX_er {Q : Except Exn (List α) → Prop} {g : ρ → List α} {e : Exn} : RfUX (κ := κ) Q g (.ret (.error e)) = Q (.error e) := rfl
theorem W_finUX {g : ρ → List α} {x : Option (Res ρ κ (Except Exn Unit))} {Q : Except Exn (List α) → Prop} : W (finUX g x) Q = W x (RfUX Q g) := by
  unfold finUX
  rw [W_ob]
  congr 1
  funext r
  cases r with
  | nxt γ => exact W_some
  | ret b => cases b with
    | ok y => exact W_none
    | error e => exact W_some
  | cnt γ => exact W_none
  | brk γ => exact W_none
end
end Mi

namespace Mi
open PySem PySem.Spec PyProof.Rows L2 Fw
/-! ### what the text says of the exception classes -/
def exC (K : PySem.W.Frag) (c : Nat) : Addr := He.ga K (exN c)
/-- the classes that isinstance is asked of: 0 to 4 as they are numbered, HomeError, ValueError -/
def exT (K : PySem.W.Frag) (t : Nat) : Value := if t = 6 then .type "ValueError" else .ref (exC K t)
def exIs (c t : Nat) : Bool := decide (c = t) || decide (t = 5) || decide (t = 6)
def xcB (K : PySem.W.Frag) (D : Addr) : Bool := decide (PySem.W.findIn K (.ref D) "__getattribute__" = some (some (.builtin "BaseException.__getattribute__"))) && (decide (PySem.W.findIn K (.ref D) "__getattr__" = some none) && (decide (PySem.W.subIn K (.ref D) (.type "BaseException") = some true) &&
  (PySem.W.hasDictIn K D && (decide (PySem.W.findIn K (.ref D) "__class__" = some (some (.builtin "object.__class__"))) && (decide (PySem.W.specialIn K (.builtin "object.__class__") "__get__" = some (some (.builtin "getset_descriptor.__get__"))) &&
  (decide (PySem.W.takesIn K (.builtin "object.__class__") = some true) && decide (PySem.W.mroIn K D (.type "object") = some true)))))))
theorem xcB_ok {K : PySem.W.Frag} {D : Addr} (h : xcB K D = true) : ExcC K D := by
  obtain ⟨h1, h⟩ := He.ba h
  obtain ⟨h2, h⟩ := He.ba h
  obtain ⟨h3, h⟩ := He.ba h
  obtain ⟨h4, h⟩ := He.ba h
  obtain ⟨h5, h⟩ := He.ba h
  obtain ⟨h6, h⟩ := He.ba h
  obtain ⟨h7, h8⟩ := He.ba h
  exact ⟨of_decide_eq_true h1, of_decide_eq_true h2, of_decide_eq_true h3, h4, of_decide_eq_true h5, of_decide_eq_true h6, of_decide_eq_true h7, of_decide_eq_true h8⟩
def xB (K : PySem.W.Frag) : Bool := (List.range 6).all fun c => xcB K (exC K c) && (decide (PySem.W.exmOne K (.ref (exC K c)) (.ref (exC K 5)) = some true) && ((List.range 7).all fun t => decide (PySem.W.kitOne K (.ref (exC K c)) (exT K t) = some (exIs c t))))
structure XFa (K : PySem.W.Frag) : Prop where
  xc : ∀ c, ExcC K (exC K c)
  xm : ∀ c, PySem.W.exmOne K (.ref (exC K c)) (.ref (exC K 5)) = some true
  is : ∀ c t, t < 7 → PySem.W.kitOne K (.ref (exC K c)) (exT K t) = some (exIs c t)
theorem exC_le (K : PySem.W.Frag) (c : Nat) : ∃ c', c' < 6 ∧ exC K c = exC K c' ∧ ∀ t, t < 7 → exIs c' t = exIs c t := by
  by_cases h : c < 6
  · exact ⟨c, h, rfl, fun _ _ => rfl⟩
  · refine ⟨5, by decide, ?_, fun t ht => ?_⟩
    · obtain ⟨n, rfl⟩ : ∃ n, c = n + 5 := ⟨c - 5, by omega⟩
      rfl
    · unfold exIs
      by_cases h5 : t = 5
      · subst h5; simp
      · by_cases h6 : t = 6
        · subst h6; simp
        · rw [decide_eq_false h5, decide_eq_false h6, decide_eq_false (by omega), decide_eq_false (by omega)]
theorem xB_ok {K : PySem.W.Frag} (h : xB K = true) : XFa K := by
  have key : ∀ c, c < 6 → ExcC K (exC K c) ∧ PySem.W.exmOne K (.ref (exC K c)) (.ref (exC K 5)) = some true ∧ ∀ t, t < 7 → PySem.W.kitOne K (.ref (exC K c)) (exT K t) = some (exIs c t) := fun c hc => by
    have h2 := List.all_eq_true.mp h c (List.mem_range.mpr hc)
    obtain ⟨a, b⟩ := He.ba h2
    obtain ⟨b, d⟩ := He.ba b
    exact ⟨xcB_ok a, of_decide_eq_true b, fun t ht => of_decide_eq_true (List.all_eq_true.mp d t (List.mem_range.mpr ht))⟩
  refine ⟨fun c => ?_, fun c => ?_, fun c t ht => ?_⟩ <;> obtain ⟨c', h1, h2, h3⟩ := exC_le K c <;> rw [h2]
  · exact (key c' h1).1
  · exact (key c' h1).2.1
  · rw [(key c' h1).2.2 t ht, h3 t ht]
/-! ### isinstance(error, C) -/
section
variable {X : Cx} {K : PySem.W.Frag}
def rIsX (K : PySem.W.Frag) (a : Addr) (cls : Value) (d : Option Addr) : List V → Hp → VK → Prop := fun xs H Q => ∃ (D : Addr) (c : V) (cv : Value) (b : Bool), cls = .ref D ∧ ExcC K D ∧ (d = none ∨ ∃ dd fs, d = some dd ∧ H dd = some (.xd fs)) ∧ xs = [.ref a, c] ∧ (∀ u, RelV c u → u = cv) ∧
  PySem.W.kitOne K (.ref D) cv = some b ∧ Q (.bl b) H
theorem isX_ {a : Addr} {cls : Value} {d : Option Addr} {oe : Obj} {pn : List (Addr × Obj)} (hz : Zc cls d oe) (hf : ∃ vs, oe.data = .fields vs) (eK : X.K = K := by rfl) : CallR (X.suite a ((a, oe) :: pn)) (.builtin "isinstance") (rIsX K a cls d) := by
  subst eK
  intro pins s σ H xs us Q I r h
  obtain ⟨D, c, cv, b, rfl, T, hd, rfl, hcv, e, q⟩ := h
  cases r with
  | cons rx rr => cases rr with
    | cons rt rr =>
      cases rr
      cases rx
      obtain rfl := hcv _ rt
      obtain ⟨hget, _⟩ := I.pin (a, oe) (List.mem_append.mpr (.inl List.mem_cons_self))
      obtain ⟨fv, hv⟩ := hf
      obtain ⟨od, J⟩ : ∃ od, PySem.W.InstAt s.heap a oe D od := by
        obtain ⟨z1, z2⟩ := hz
        rcases hd with hd | ⟨dd, fs, hd, hh⟩
        · exact ⟨none, hget, z1, by unfold PySem.W.notCls; rw [hv] <;> rfl, by rw [z2, hd]; trivial⟩
        · have ok : ObjOk X.prog X.w H s.heap dd (.xd fs) := I.hok dd _ hh
          obtain ⟨mA, hns, _⟩ := ok
          obtain ⟨od, ho, _⟩ := lookIn_ns hns
          exact ⟨some od, hget, z1, by unfold PySem.W.notCls; rw [hv] <;> rfl, by rw [z2, hd]; exact ho⟩
      have hcl : (PySem.W.clsIn X.K D).isSome = true := by
        obtain ⟨cd, hc, _⟩ := PySem.W.any_some T.hd
        rw [hc]
        rfl
      exact PySem.W.kia_one (PySem.W.kitx_exc hcl T.hg T.hk T.hs T.ha T.hn T.ht T.hm) I.kIn J e (fun z => nomatch z) fun tk => ⟨.bl b, H, I.kept (t' := tk) fun _ _ z => z, rfl, q⟩
end
section
variable {ρ : Type} {E : En ρ} {K : PySem.W.Frag} {i : Nat} {a : Addr} {cls : Value} {d : Option Addr}
theorem se_isX {g : ρ → Exn} {c : V} {t : Nat} (X : XFa K) (ht : t < 7) (hg : Gt E i (sE K a cls d) g) (hc : ∀ u, RelV c u → u = exT K t) : SE (tCB (rIsX K a cls d) (tCons (tVar i) (tCons (tC c) tNil))) E (sF jB) (fun γ => some (exIs (g γ).1 t)) := ⟨fun s0 hL hE e k => by
  cases e
  obtain ⟨v, L1, h1, _, e1, _, r⟩ := hg hE
  subst e1
  refine ⟨_, h1, exC K (g _).1, c, exT K t, exIs (g _).1 t, r.1, X.xc _, ?_, rfl, hc, X.is _ t ht, k _ _ _ [] (Step.nil s0) ⟨rfl, rfl⟩⟩
  rcases r.2 with ⟨_, dd, fs, e2, e3, _⟩ | ⟨_, e2⟩
  · exact .inr ⟨dd, fs, e2, s0 _ _ e3⟩
  · exact .inl e2⟩
/-- error.line, error.column -/
theorem se_line {g : ρ → Exn} (hg : Gt E i (sE K a cls d) g) : SE (tXf a cls d (exC K 0) "line" (tVar i)) E (sF jI) (fun γ => pck ((g γ).1 = 0) (g γ).2.1) := ⟨fun s0 hL hE e k => by
  obtain ⟨p, rfl⟩ := pck_some e
  obtain ⟨v, L1, h1, _, e1, _, r⟩ := hg hE
  subst e1
  refine ⟨_, h1, rfl, by rw [r.1, p]; rfl, ?_⟩
  rcases r.2 with ⟨_, dd, fs, e2, e3, e4, e5⟩ | ⟨h, _⟩
  · exact ⟨dd, fs, _, e2, s0 _ _ e3, e4, k _ _ _ [] (Step.nil s0) ⟨rfl, rfl⟩⟩
  · exact absurd p h⟩
theorem se_column {g : ρ → Exn} (hg : Gt E i (sE K a cls d) g) : SE (tXf a cls d (exC K 0) "column" (tVar i)) E (sF jI) (fun γ => pck ((g γ).1 = 0) (g γ).2.2) := ⟨fun s0 hL hE e k => by
  obtain ⟨p, rfl⟩ := pck_some e
  obtain ⟨v, L1, h1, _, e1, _, r⟩ := hg hE
  subst e1
  refine ⟨_, h1, rfl, by rw [r.1, p]; rfl, ?_⟩
  rcases r.2 with ⟨_, dd, fs, e2, e3, e4, e5⟩ | ⟨h, _⟩
  · exact ⟨dd, fs, _, e2, s0 _ _ e3, e5, k _ _ _ [] (Step.nil s0) ⟨rfl, rfl⟩⟩
  · exact absurd p h⟩
end
/-! ### try, said once -/
section
variable {α β ρ κ τ : Type}
def trx (x : Option (Except Exn α)) (f : α → Option (Res ρ κ τ)) (g : Exn → Option (Res Unit Unit τ)) : Option (Res ρ κ τ) := ob x fun r => match r with
  | .ok y => f y
  | .error e => ob (Mi.fin (g e)) fun b => some (.ret b)
def Xt (Q : Res ρ κ τ → Prop) (f : α → Option (Res ρ κ τ)) (g : Exn → Option (Res Unit Unit τ)) : Except Exn α → Prop
  | .ok y => W (f y) Q
  | .error e => W (g e) (Rf fun b => Q (.ret b))
theorem Xt_ok {Q : Res ρ κ τ → Prop} {f : α → Option (Res ρ κ τ)} {g : Exn → Option (Res Unit Unit τ)} {y : α} : Xt Q f g (.ok y) = W (f y) Q := rfl
theorem Xt_er {Q : Res ρ κ τ → Prop} {f : α → Option (Res ρ κ τ)} {g : Exn → Option (Res Unit Unit τ)} {e : Exn} : Xt Q f g (.error e) = W (g e) (Rf fun b => Q (.ret b)) := rfl
theorem W_trx {x : Option (Except Exn α)} {f : α → Option (Res ρ κ τ)} {g : Exn → Option (Res Unit Unit τ)} {Q : Res ρ κ τ → Prop} : W (trx x f g) Q = W x (Xt Q f g) := by
  unfold trx
  rw [W_ob]
  congr 1
  funext r
  cases r with
  | ok a => rfl
  | error e =>
    show W (ob (Mi.fin (g e)) fun b => some (.ret b)) Q = _
    rw [W_ob, W_fin]
    unfold Xt
    congr 2
    funext b
    exact W_some
end
theorem ss_tryN {ρ ρ' ρ'' ρ2 α δ κ τ : Type} {E : En ρ} {E' : En ρ'} {E1 : En ρ''} {Ec : En κ} {tA : TA} {K : PySem.W.Frag} {u : TS} {s : Sl α} {E2 : Addr → Value → Option Addr → En ρ2} {a : Ar δ} {i j : Nat} {ts : Addr → Value → Option Addr → TS} {Wout : WX} {f : ρ → Option δ} {mc : δ → Option (Except Exn α)} {p : α → ρ → ρ''} {pe : Exn → ρ → ρ2} {R' : RRt τ}
    {mm : ρ'' → Option (Res ρ' κ τ)} {ms : ρ2 → Option (Res Unit Unit τ)} {E4 : Addr → Value → Option Addr → En Unit}
    (X : XFa K) (ha : SA tA E a f) (hp : Pt E j s E1 p) (hu : SS u E1 E' Ec R' mm) (hpe : ∀ a cls d, Pt E i (sE K a cls d) (E2 a cls d) pe) (hs : ∀ a cls d, SS (ts a cls d) (E2 a cls d) (E4 a cls d) eN R' ms) :
    SS (fun D σ H => tSeq (tAsg (tCallS (spX K a s mc) (WE (wAs K (.ref (exC K 5)) i ts Wout D)) tA) (gName j)) u D σ H) E E' Ec R' (fun γ => ob (f γ) fun x => trx (mc x) (fun y => mm (p y γ)) (fun e => ms (pe e γ))) :=
  ss_conv (ss_try (Wout := Wout) X.xm ha hp hu hpe hs) (by
    funext γ
    refine congrArg (ob (f γ)) ?_
    funext x
    unfold trx
    refine congrArg (ob (mc x)) ?_
    funext r
    cases r <;> rfl)
end Mi

namespace Mi
open PySem PySem.Spec PyProof.Rows L2 Fw
/-! ### own lists handed over -/
section
variable {ρ ρ' ρ'' α β δ κ τ : Type} {E : En ρ} {E' : En ρ'} {E1 : En ρ''} {Ec : En κ} {tA : TA} {K : PySem.W.Frag} {u : TS} {s : Sl α} {s' : Sl β} {s2 : Sl δ}
/-- a name's thing is replaced by another -/
structure Rx (E : En ρ) (i : Nat) (s : Sl α) (g : ρ → α) (s' : Sl β) (E1 : En ρ'') (put : β → ρ → ρ'') : Prop where
  run : ∀ {σ : L2.St} {F : Hp} {L : List (Addr × HO)} {γ : ρ}, E.r σ F L γ → ∃ v pre L1 post, σ[i]? = some (some v) ∧ L = pre ++ (L1 ++ post) ∧ s.r v F L1 (g γ) ∧
    ∀ v' F' L1' x', Same F F' → s'.r v' F' L1' x' → E1.r (σ.set i (some v')) F' (pre ++ (L1' ++ post)) (put x' γ)
theorem x0 : Rx (eC s E) 0 s (fun γ => γ.1) s' (eC s' E) (fun x γ => (x, γ.2)) := ⟨fun ⟨v, σ', L1, L2, e1, e2, h, t⟩ => by
  subst e1 e2
  exact ⟨v, [], L1, L2, rfl, rfl, h, fun v' F' L1' x' z h' => ⟨v', σ', L1', L2, rfl, rfl, h', E.m z t⟩⟩⟩
theorem xU {i : Nat} {g : ρ → α} {put : β → ρ → ρ''} (h : Rx E i s g s' E1 put) : Rx (eU E) (i + 1) s g s' (eU E1) put := ⟨fun ⟨o, σ', e, t⟩ => by
  subst e
  obtain ⟨v, pre, L1, post, h1, h2, h3, h4⟩ := h.run t
  exact ⟨v, pre, L1, post, h1, h2, h3, fun v' F' L1' x' z h' => ⟨o, _, rfl, h4 v' F' L1' x' z h'⟩⟩⟩
theorem xS {i : Nat} {g : ρ → α} {put : β → ρ → ρ''} (h : Rx E i s g s' E1 put) : Rx (eC s2 E) (i + 1) s (fun γ => g γ.2) s' (eC s2 E1) (fun x γ => (γ.1, put x γ.2)) := ⟨fun ⟨v', σ', La, L2, e1, e2, q, t⟩ => by
  subst e1 e2
  obtain ⟨v, pre, L1, post, h1, h2, h3, h4⟩ := h.run t
  subst h2
  exact ⟨v, La ++ pre, L1, post, h1, by rw [List.append_assoc], h3, fun w F' L1' x' z h' => ⟨v', _, La, _, rfl, by rw [List.append_assoc], s2.m z q, h4 w F' L1' x' z h'⟩⟩⟩
/-- called with such arguments and a list that is handed over -/
def spC (A : Au ρ) (R : Rp α) (s : Sl β) (m : List α → ρ → Option β) : Sp := fun vs H Q _ => ∃ F p ws xs γ b, Same F H ∧ F p = none ∧ H p = some (.lst ws) ∧ Paired (R.r F) ws xs ∧ A.r F vs p γ ∧ m xs γ = some b ∧
  ∀ v F' H' L, Own F (cutH H p) F' H' L [] → s.r v F' L b → Q v H'
/-- a callee has taken the own list at p over -/
theorem Own.given {F0 H0 F H F' H' : Hp} {pre post L' : List (Addr × HO)} {p : Addr} {o : HO} (O : Own F0 H0 F H (pre ++ ([(p, o)] ++ post)) []) (c : Own F (cutH H p) F' H' L' []) : Own F0 H0 F' H' (pre ++ (L' ++ post)) [] := by
  have O1 : Own F0 H0 F H ((p, o) :: (pre ++ post)) [] := O.perm (List.perm_middle (l₁ := pre) (l₂ := post)).symm
  obtain ⟨hF, hH0, hH⟩ := O1.own _ List.mem_cons_self
  have nd := O1.nd
  rw [List.map_cons] at nd
  obtain ⟨n1, n2⟩ := List.nodup_cons.mp nd
  have hc : ∀ b u, b ≠ p → H b = some u → H' b = some u := fun b u n e => c.hh b u (by rw [cutH_ne n]; exact e)
  have key : Own F0 H0 F' H' (L' ++ (pre ++ post)) [] := by
    refine ⟨O1.f0.trans c.f0, c.fh, fun b u e => hc b u (ne_of_none e hH0) (O1.hh b u e), fun b u h => ?_, fun q hq => ?_, ?_, trivial⟩
    · rcases c.new b u h with h | h
      · exact O1.new b u h
      · by_cases hb : b = p
        · subst hb
          exact .inr hH0
        · rw [cutH_ne hb] at h
          exact .inr (O1.hh.free h)
    · rcases List.mem_append.mp hq with hq | hq
      · obtain ⟨h1, h2, h3⟩ := c.own q hq
        refine ⟨h1, ?_, h3⟩
        by_cases hb : q.1 = p
        · rw [hb]; exact hH0
        · rw [cutH_ne hb] at h2
          exact O1.hh.free h2
      · obtain ⟨h1, h2, h3⟩ := O1.own q (List.mem_cons_of_mem _ hq)
        have hb : q.1 ≠ p := fun z => n1 (List.mem_map.mpr ⟨q, hq, z⟩)
        refine ⟨?_, h2, hc _ _ hb h3⟩
        cases z : F' q.1 with
        | none => rfl
        | some u =>
          rcases c.new _ _ z with h | h
          · rw [h1] at h; cases h
          · rw [cutH_ne hb, h3] at h; cases h
    · rw [List.map_append]
      refine List.nodup_append.mpr ⟨c.nd, n2, fun x hx y hy e2 => ?_⟩
      obtain ⟨q, hq, rfl⟩ := List.mem_map.mp hx
      obtain ⟨r, hr, rfl⟩ := List.mem_map.mp hy
      have hb : r.1 ≠ p := fun z => n1 (List.mem_map.mpr ⟨r, hr, z⟩)
      have h3 := (O1.own r (List.mem_cons_of_mem _ hr)).2.2
      have h4 := (c.own q hq).2.1
      rw [e2, cutH_ne hb, h3] at h4
      cases h4
  refine key.perm ?_
  rw [← List.append_assoc, ← List.append_assoc]
  exact List.perm_append_comm.append_right post
theorem ss_asgC {A : Au δ} {T : Rp τ} {i : Nat} {g : ρ → List τ} {put : α → ρ → ρ''} {f : ρ → Option δ} {m : List τ → δ → Option α} {Ex : XK} {R : RRt β} {mm : ρ'' → Option (Res ρ' κ β)} (hr : Rx E i (sO T) g s E1 put) (ha : SAu tA E i A f) (hu : SS u E1 E' Ec R mm) :
    SS (tSeq (tAsg (tCall (spC A T s m) [] Ex tA) (gName i)) u) E E' Ec R (fun γ => ob (f γ) fun a => ob (m (g γ) a) fun b => mm (put b γ)) := ⟨fun {σ F0 H0 F H L γ r D} O hE e fin => by
  obtain ⟨a, e1, e⟩ := ob_some e
  obtain ⟨b, e2, e⟩ := ob_some e
  obtain ⟨v, pre, L1, post, h1, h2, ⟨p, vs, h3, h4, h5⟩, h6⟩ := hr.run hE
  subst h3 h4 h2
  show tCall (spC A T s m) [] Ex tA σ H (fun w H1 => u D (σ.set i (some w)) H1)
  rw [q_call]
  refine ha.run O.fh (Held.of O) hE h1 e1 fun us F1 H1 s1 r1 => ?_
  have O1 := Own.on O s1
  rw [List.nil_append] at O1
  have hp : (p, HO.lst vs) ∈ pre ++ ([(p, HO.lst vs)] ++ post) := by simp
  refine ⟨F1, p, vs, g γ, a, b, O1.fh, (O1.own _ hp).1, (O1.own _ hp).2.2, Paired.mono (fun _ _ q => T.m s1.f0 q) h5, r1, e2, fun w F2 H2 L2 c q2 => ?_⟩
  exact hu.run (Own.given O1 c) (h6 w F2 L2 b (s1.f0.trans c.f0) q2) e (fin.mo (s1.f0.trans c.f0))⟩
structure AUC {α : Type} (A : Au ρ) (R : Rp α) (E : En ρ') (n : Nat) (j : List α → ρ → ρ') : Prop where
  run : ∀ {F : Hp} {vs ws : List V} {xs : List α} {γ : ρ} {p : Addr}, A.r F vs p γ → Paired (R.r F) ws xs → E.r (vs.map some ++ List.replicate n none) F [(p, .lst ws)] (j xs γ)
theorem auc_H {R : Rp α} {T : Ar ρ} {E : En ρ} {n : Nat} (h : AE T E n) : AUC (uH T) R (eC (sO R) E) n (fun xs γ => (xs, γ)) := ⟨fun {F vs ws xs γ p} ⟨r, e, t⟩ q => by
  subst e
  exact ⟨_, _, [(p, .lst ws)], [], rfl, rfl, ⟨p, ws, rfl, rfl, q⟩, h.run t⟩⟩
theorem auc_C {R : Rp α} {B : Rp β} {A : Au ρ} {E : En ρ'} {n : Nat} {j : List α → ρ → ρ'} (h : AUC A R E n j) : AUC (uC B A) R (eC (sF B) E) n (fun xs γ => (γ.1, j xs γ.2)) := ⟨fun ⟨v, r, e, r1, t⟩ q => by
  subst e
  exact ⟨v, _, [], _, rfl, rfl, ⟨rfl, r1⟩, h.run t q⟩⟩
theorem spC_len {A : Au ρ} {R : Rp α} {s : Sl β} {m : List α → ρ → Option β} {n : Nat} (h : AUN A n) : ∀ vs H Q E, spC A R s m vs H Q E → vs.length = n := fun _ _ _ _ ⟨_, _, _, _, _, _, _, _, _, _, r, _⟩ => h.run r
theorem finC_runX {A : Au ρ} {R : Rp α} {s : Sl β} {k n : Nat} {N : List Str} {E0 : En ρ''} {E1 : En ρ'} {j : List α → ρ → ρ''} {t : TS} {mm : List α → ρ → Option β} {vs : List V} {H : Hp} {Q : VK} {Ex : XK} {D : Ends}
    (hA : AUC A R E0 n j) (hn : AUN A k) (hN : N.length = k + n) (h : ∃ m : ρ'' → Option (Res ρ' Unit β), SS t E0 E1 eN (rS s) m ∧ mm = fun xs γ => Mi.fin (m (j xs γ))) (q : spC A R s mm vs H Q Ex) (hD : D.rt = Q) : t D (L2.start N vs) H := by
  obtain ⟨F, p, ws, xs, γ, b, s0, hF, hH, q1, r, e, k⟩ := q
  obtain ⟨m, hs, hm⟩ := h
  subst hm
  obtain ⟨r1, e1, e2⟩ := ob_some e
  have hl := hn.run r
  have hs' : L2.start N vs = vs.map some ++ List.replicate n none := by
    unfold L2.start
    rw [show N.length - vs.length = n by omega]
  rw [hs']
  refine hs.run (Own.lend s0 hF hH) (hA.run r q1) e1 ?_
  cases r1 with
  | ret b2 =>
    cases e2
    rw [← hD] at k
    exact fun v F' H' L _ O r' => k v F' H' L O r'
  | nxt _ => cases e2
  | cnt _ => cases e2
  | brk _ => cases e2
end
end Mi

namespace Mi
open PySem PySem.Spec PyProof.Rows L2 Fw
theorem sing_at {l : List Nat} {i : Nat} {x : List Nat} (h : (l.map fun c => [c])[i]? = some x) : ∃ c, l[i]? = some c ∧ x = [c] := by
  rw [List.getElem?_map] at h
  cases e : l[i]? with
  | none => rw [e] at h; cases h
  | some c => rw [e] at h; exact ⟨c, rfl, (Option.some.inj h).symm⟩
/-! ### enumerate(text) -/
/-- each sign with its place, in a new pair -/
def Ites (x : Str) : It := ⟨fun i _ => i < x.cps.size, fun i H v H' => ∃ T c, v = .ref T ∧ H T = none ∧ x.cps[i]? = some c ∧ H' = upd H T (.tup [.int (i : Nat), .str ⟨#[c]⟩]), fun i _ => x.cps.size ≤ i⟩
theorem turn_enumS {P : Program} {w : World} {K : PySem.W.Frag} {elts : List Expr} {kk : Nat} {tpos : Pos} (x : Str) (t : Tok) (e it : Addr) :
    Turn P w K (.Tuple elts kk tpos) (Ites x) [e, it] e (fun i h => (∃ old, IsEnum h e it ((i : Nat) : Int) old) ∧ h.IsStrIter it (strIterType x) x t i ∧ e ≠ it ∧ i ≤ x.cps.size) where
  mem := List.mem_cons_self
  obj := fun i h st b hb => by
    obtain ⟨⟨old, h1⟩, ⟨o, h2, _, h3⟩, _⟩ := st
    rcases List.mem_cons.mp hb with z | hb
    · rw [z]; exact ⟨_, h1, fun v q => nomatch q⟩
    · rw [List.mem_singleton.mp hb]
      exact ⟨o, h2, fun v q => by rw [h3] at q; cases q⟩
  keep := fun i h h' st k => by
    obtain ⟨⟨old, h1⟩, ⟨o, h2, h3⟩, hne, hle⟩ := st
    exact ⟨⟨old, k e List.mem_cons_self _ h1⟩, ⟨o, k it (List.mem_cons_of_mem _ List.mem_cons_self) o h2, h3⟩, hne, hle⟩
  item := by
    intro X hP hw hK hc i pins s σ H E I hf st hg
    subst hP hw hK
    obtain ⟨⟨old, he⟩, hit, hne, hle⟩ := st
    have D : Draws X.prog X.w X.A.in1 it [it] x.cps.size (SignAt x) (fun i h => h.IsStrIter it (strIterType x) x t i) := by
      have hd : X.A.in1.handled = none := I.ok.hd hc
      unfold strIterType
      split
      · exact Draws.strAscii hd it x t
      · exact Draws.strWide hd it x t
    have hel : e < s.heap.objs.size := Heap.lt_size he
    have hil : it < s.heap.objs.size := by
      obtain ⟨_, q, _⟩ := hit
      exact Heap.lt_size q
    refine wpAny_pyNext_enum_itemD D he hit hg hne (fun hm => hne (List.mem_singleton.mp hm)) fun v h' tk hv ho hit' hT hsz hk => ?_
    obtain ⟨c, u, hcx, ev⟩ := hv
    subst ev
    refine ⟨_, rfl, wpAny_letOwnedTupleGo_enum (s := { s with heap := h', toks := tk + 1 }) ho fun h2 he' sb => ?_⟩
    have hT2 : h2.get? s.heap.objs.size = some { cls := .type "tuple", data := .seq #[.int i tk, .str ⟨#[c]⟩ u] } := (sb.2 _ (Nat.ne_of_gt hel)).trans hT
    have new : ObjOk X.prog X.w (upd H s.heap.objs.size (.tup [.int (i : Nat), .str ⟨#[c]⟩])) h2 s.heap.objs.size (.tup [.int (i : Nat), .str ⟨#[c]⟩]) :=
      ⟨by show 2 ≤ sizeLine; decide, [.int i tk, .str ⟨#[c]⟩ u], .cons ⟨_, rfl⟩ (.cons ⟨_, rfl⟩ .nil), ⟨_, hT2, rfl, _, rfl⟩⟩
    have J : Inv X pins σ (upd H s.heap.objs.size (.tup [.int (i : Nat), .str ⟨#[c]⟩])) { s with heap := h2, toks := tk + 1 } :=
      I.turnedNew (ch := [e, it]) (fun b ob hb q => by
        have b1 : b ≠ e := fun z => hb (by rw [z]; exact List.mem_cons_self)
        have b2 : b ≠ it := fun z => hb (by rw [z]; exact List.mem_cons_of_mem _ List.mem_cons_self)
        exact (sb.2 b b1).trans (hk b ob b1 b2 q)) hf (Nat.le_refl _) new
    refine ⟨.ref s.heap.objs.size, _, J, rfl, ⟨_, c, rfl, I.hok.fresh (Nat.le_refl _), hcx, rfl⟩, ⟨⟨.str ⟨#[c]⟩ u, ?_⟩, ?_, hne, hg⟩, fun b hb => ?_⟩
    · rw [show ((i + 1 : Nat) : Int) = (i : Int) + 1 by omega]
      exact he'
    · obtain ⟨o, q1, q2⟩ := hit'
      exact ⟨o, (sb.2 it (Ne.symm hne)).trans q1, q2⟩
    · have hb' : b < s.heap.objs.size := by
        rcases List.mem_cons.mp hb with z | hb
        · rw [z]; exact hel
        · rw [List.mem_singleton.mp hb]; exact hil
      rw [upd_ne (Nat.ne_of_lt hb')]
      exact (hf b hb).1
  done := by
    intro X hP hw hK hc i pins s σ H E I hf st hg
    subst hP hw hK
    obtain ⟨⟨old, he⟩, hit, hne, hle⟩ := st
    have D : Draws X.prog X.w X.A.in1 it [it] x.cps.size (SignAt x) (fun i h => h.IsStrIter it (strIterType x) x t i) := by
      have hd : X.A.in1.handled = none := I.ok.hd hc
      unfold strIterType
      split
      · exact Draws.strAscii hd it x t
      · exact Draws.strWide hd it x t
    obtain ⟨f0, f1, f2, f3, f4, f5⟩ := hf it (List.mem_cons_of_mem _ List.mem_cons_self)
    obtain rfl : i = x.cps.size := Nat.le_antisymm hle hg
    exact wpAny_pyNext_enum_endD D he hit fun h' eb => ⟨rfl, I.turned (t' := s.toks) (fun b o hb q => eb b o hb q) f0 f1 f3 f4 f5⟩
  self := fun A i s Q E st h => by
    obtain ⟨⟨_, he⟩, _⟩ := st
    exact wpAny_pyIter_enum he h
def iEnumS (ta : TA) : TI := fun σ H R => ta σ H fun vs H1 => ∃ x, vs = [.str x] ∧ R (Ites x) H1
theorem pi_enumS {X : Cx} {e : Expr} {ta : TA} {p pos tpos : Pos} {elts : List Expr} {kk : Nat} (hg : Gl X "enumerate") (hm : X.mg "enumerate" = none) (ha : PA X [e] ta) (hs : starEach [e] X.env = [(false, eval e X.env)] := by rfl) :
    PI X (.Tuple elts kk tpos) (.Call (.Name "enumerate" p) [e] [] pos) (iEnumS ta) := by
  refine ⟨fun pins s σ H R I h => ?_⟩
  refine Call_ (ld_blt I hg hm boot_enumerate (PyProof.Rows.callWith_type1 (thn (ha.run pos pins s σ H _ I h) fun us s1 ⟨vs, H1, I1, r1, x, ev, q⟩ => ?_) hs rfl))
  subst ev
  cases r1 with
  | cons r rr =>
    cases rr
    obtain ⟨t, rfl⟩ := r
    refine call_enumerate_str fun h' hen hit hsz hk => wpAny_pyIter_enum hen ?_
    · have J : Inv X pins σ H1 { s1 with heap := h' } := I1.kept (t' := s1.toks) hk
      refine ⟨s1.heap.objs.size + 1, [s1.heap.objs.size + 1, s1.heap.objs.size], _, _, H1, rfl, J, turn_enumS x t (s1.heap.objs.size + 1) s1.heap.objs.size, ⟨⟨.none, hen⟩, hit, Nat.succ_ne_self _, Nat.zero_le _⟩, fun b hb => ?_, q⟩
      have hle : s1.heap.objs.size ≤ b := by
        rcases List.mem_cons.mp hb with z | hb
        · rw [z]; exact Nat.le_add_right _ _
        · rw [List.mem_singleton.mp hb]; exact Nat.le_refl _
      exact I1.fpOk hle (I1.hok.fresh hle)
section
variable {ρ : Type} {E : En ρ} {tA : TA}
theorem si_enumS {fa : ρ → Option (List Nat × Unit)} (h : SA tA E (aC jS aN) fa) : SI (iEnumS tA) E (jT (yC jI (y1 jS))) (fun γ => ob (fa γ) fun x => some (penum (x.1.map fun c => [c]))) where
  run s0 hL he e k := by
    obtain ⟨x, e1, e⟩ := ob_some e
    cases e
    refine h s0 hL he e1 fun vs F1 H1 s1 ⟨v, r, z1, r1, z2⟩ => ?_
    obtain ⟨x, _⟩ := x
    subst z1 z2
    have hsz : (S x).cps.size = x.length := by simp [S]
    refine ⟨S x, by rw [show v = _ from r1.1], k _ _ _ s1 ⟨fun {i F2 H2 y} s1 s2 e => ?_, fun s1 s2 => ?_⟩⟩
    · obtain ⟨g1, g2⟩ := penum_get e
      obtain ⟨c, hc, hy⟩ := sing_at g2
      refine ⟨by show i < (S x).cps.size; rw [hsz]; exact (List.getElem?_eq_some_iff.mp hc).1, fun u H3 hyl => ?_⟩
      obtain ⟨t, c', rfl, nt, e4, rfl⟩ := hyl
      have e5 : x[i]? = some c' := by simpa [S] using e4
      rw [hc] at e5
      cases e5
      refine yieldT s2 nt ⟨_, _, rfl, by show V.int _ = V.int _; rw [g1], _, rfl, by rw [hy]; rfl, by rw [hy]; exact fun d hd => by rw [List.mem_singleton.mp hd]; exact r1.2 c (List.mem_of_getElem? hc)⟩
    · show (S x).cps.size ≤ _
      rw [hsz, penum_len, List.length_map]
      exact Nat.le_refl _
end
end Mi

namespace Mi
open PySem PyProof.Rows L2 Fw
section
variable {α β : Type}
theorem ob_s (a : α) (f : α → Option β) : ob (some a) f = f a := rfl
theorem ixN_last {n : Nat} (h : 0 < n) : ixN n (-(1 : Int)) = some (n - 1) := by
  unfold ixN
  rw [if_neg (by omega), if_pos (by omega)]
  congr 1
  omega
theorem pat_last {xs : List α} {x : α} (h : xs.getLast? = some x) : pat xs (-(1 : Int)) = some x := by
  have hp : 0 < xs.length := List.length_pos_of_mem (List.mem_of_getLast? h)
  unfold pat L2.atI
  rw [ixN_last hp]
  rw [List.getLast?_eq_getElem?] at h
  exact h
theorem pset_last {xs : List α} {x y : α} (h : xs.getLast? = some x) : pset xs (-(1 : Int)) y = some (xs.dropLast ++ [y]) := by
  obtain ⟨ys, rfl⟩ := List.getLast?_eq_some_iff.mp h
  unfold pset
  rw [ixN_last (by simp)]
  simp
end
end Mi
namespace Mi
open PySem PyProof.Rows L2 Fw
section
variable {α : Type}
theorem pat_lastL (ys : List α) (x : α) : pat (ys ++ [x]) (((ys ++ [x]).length : Int) - 1) = some x := by
  have e : ((ys ++ [x]).length : Int) - 1 = (ys.length : Int) := by rw [List.length_append, List.length_singleton]; omega
  rw [e]
  exact pat_nat (by simp)
theorem pset_lastL (ys : List α) (x y : α) : pset (ys ++ [x]) (((ys ++ [x]).length : Int) - 1) y = some (ys ++ [y]) := by
  have e : ((ys ++ [x]).length : Int) - 1 = (ys.length : Int) := by rw [List.length_append, List.length_singleton]; omega
  rw [e, pset_nat (by simp)]
  simp
end
end Mi
namespace Mi
open PySem PyProof.Rows L2 Fw
instance (l : List Nat) : Decidable (Ltr l) := inferInstanceAs (Decidable (∀ c ∈ l, c ∈ ([65, 67, 71, 84, 78] : List Nat)))
theorem rep_flat (l : List Nat) (n : Nat) : (List.replicate n l).flatten.length = n * l.length ∧ ∀ c ∈ (List.replicate n l).flatten, c ∈ l := by
  refine ⟨?_, fun c hc => ?_⟩
  · rw [List.length_flatten, List.map_replicate, List.sum_replicate_nat]
  · obtain ⟨m, h1, h2⟩ := List.mem_flatten.mp hc
    rw [(List.mem_replicate.mp h1).2] at h2
    exact h2
end Mi

namespace Mi
open PySem PySem.Spec PyProof.Rows L2 Fw
/-! ### the error that tells a line and a column -/
/-- the class above it: its __init__ is that of ValueError -/
structure OIn (K : PySem.W.Frag) (B : Addr) : Prop where
  ga : PySem.W.specialIn K (.ref B) "__getattribute__" = some (some (.builtin "type.__getattribute__"))
  ty : PySem.W.typeIn K (.ref B) = some (.type "type")
  rd : PySem.W.readsIn K B (.type "type") = true
  ini : PySem.W.findCls K (.ref B) (.type "type") "__init__" = some (.val (.builtin "ValueError.__init__"))
def oexO (C : Addr) : Option Obj → Bool
  | some o => (match o with
    | ⟨.type "type", _, .cls cd, k⟩ => cd.hasDict && (!cd.hasDel && (match cd.mro with
      | .ref C' :: bm => decide (C' = C) && PySem.HandSPX.refsVE bm
      | _ => false) && (match k.toList with
      | [_, _, _, _, some (.builtin n), _] => decide (n = "ValueError.__new__")
      | _ => false))
    | _ => false)
  | none => false
theorem oexO_ok {C : Addr} {x : Option Obj} (h : oexO C x = true) : ∃ nm q N bs bm sn sub ab col dd k0 k1 k2 k3 k5, x = some (excClassObj nm q C N bs bm true sn sub ab col dd k0 k1 k2 k3 k5 "ValueError.__new__") ∧ PySem.HandSPX.refsVE bm = true := by
  unfold oexO at h
  split at h
  · split at h
    · rename_i dd cd k
      obtain ⟨h1, h⟩ := He.ba h
      obtain ⟨h2, h5⟩ := He.ba h
      obtain ⟨h3, h4⟩ := He.ba h2
      split at h4
      · rename_i C' bm hm
        obtain ⟨e1, hbm⟩ := He.ba h4
        have e1 := of_decide_eq_true e1
        subst e1
        split at h5
        · rename_i k0 k1 k2 k3 n k5 hk
          have e2 := of_decide_eq_true h5
          subst e2
          obtain ⟨nm, bs, mro, ns, qn, hd, sn, sub, ab, col, del⟩ := cd
          dsimp only at hm h1 h3
          subst hm h1
          have h3 : del = false := by cases del <;> first | rfl | cases h3
          subst h3
          obtain ⟨l⟩ := k
          have hk : l = [k0, k1, k2, k3, some (.builtin "ValueError.__new__"), k5] := hk
          subst hk
          exact ⟨nm, qn, ns, bs, bm, sn, sub, ab, col, dd, k0, k1, k2, k3, k5, rfl, hbm⟩
        · cases h5
      · cases h4
    · cases h
  · cases h
structure OFa (K : PySem.W.Frag) : Prop where
  oc : OexC K (exC K 0)
  oi : OIn K (exC K 5)
def viB : Option PySem.W.CFound → Bool
  | some (.val (.builtin n)) => decide (n = "ValueError.__init__")
  | _ => false
theorem viB_ok {x : Option PySem.W.CFound} (h : viB x = true) : x = some (.val (.builtin "ValueError.__init__")) := by
  unfold viB at h
  split at h
  · rw [of_decide_eq_true h]
  · cases h
def oB (K : PySem.W.Frag) : Bool := oexO (exC K 0) (K.lookup (exC K 0)) && (decide (PySem.W.findIn K (.ref (exC K 0)) "__setattr__" = some (some (.builtin "object.__setattr__"))) && (decide (PySem.W.subIn K (.ref (exC K 0)) (.type "BaseException") = some true) &&
  (decide (PySem.W.typeIn K (.ref (exC K 0)) = some (.type "type")) && (PySem.W.keepIn K (.ref (exC K 0)) &&
  (decide (PySem.W.specialIn K (.ref (exC K 5)) "__getattribute__" = some (some (.builtin "type.__getattribute__"))) && (decide (PySem.W.typeIn K (.ref (exC K 5)) = some (.type "type")) && (PySem.W.readsIn K (exC K 5) (.type "type") &&
  viB (PySem.W.findCls K (.ref (exC K 5)) (.type "type") "__init__"))))))))
theorem oB_ok {K : PySem.W.Frag} (h : oB K = true) : OFa K := by
  obtain ⟨h1, h⟩ := He.ba h
  obtain ⟨h2, h⟩ := He.ba h
  obtain ⟨h3, h⟩ := He.ba h
  obtain ⟨h4, h⟩ := He.ba h
  obtain ⟨h5, h⟩ := He.ba h
  obtain ⟨h6, h⟩ := He.ba h
  obtain ⟨h7, h⟩ := He.ba h
  obtain ⟨h8, h9⟩ := He.ba h
  exact ⟨⟨oexO_ok h1, of_decide_eq_true h2, of_decide_eq_true h3, of_decide_eq_true h4, h5⟩, ⟨of_decide_eq_true h6, of_decide_eq_true h7, h8, viB_ok h9⟩⟩
section
variable {X : Cx} {e : Expr} {es : List Expr} {ta : TA} {p1 p2 pos : Pos} {x : Str} {B : Addr}
/-- B.__init__(self, ..) -/
theorem pe_oinit {pl : Sem Bool} (hg : Gl X x) (hm : X.mg x = some (.ref B)) (O : OIn X.K B) (ha : PA X (e :: es) ta) (hdb : (x == ("__debug__" : Str)) = false := by decide)
    (hc : eval (.Call (.Attribute (.Name x p1) "__init__" p2) (e :: es) [] pos) X.env = (do
      let ov ← eval (.Name x p1) X.env
      standAt p2.atName
      let (f, first) ← holding [ov] (getMethod ov "__init__" pl)
      callWith pos f first (backTo pos (starEach (e :: es) X.env)) (backToKw pos (keywordEach [] X.env))) := by rfl)
    (he : starEach (e :: es) X.env = (false, eval e X.env) :: starEach es X.env := by rfl) (hpl : (backTo pos (starEach es X.env)).any (·.1) = false := by rfl) : PE X (.Call (.Attribute (.Name x p1) "__init__" p2) (e :: es) [] pos) (tVeI X.K ta) := by
  refine ⟨fun pins s σ H Q I h => ?_⟩
  refine PySem.W.methodCall_KW (ld_glob I hg hm ?_ hdb) hc
  obtain ⟨m, fr⟩ := I.fr
  refine PySem.W.method_of_cls fr I.ok.mod.kin O.ga (PySem.W.cls_val fr I.ok.mod.kin O.ty O.rd O.ini (by decide +kernel) ?_)
  refine PyProof.Rows.callWith_method1 (thn (ha.run pos pins _ σ H _ ((I.tok _).tok _) h) fun us s1 ⟨vs, H1, I1, r1, a, C, ws, ev, hl, T, ea, q⟩ => ?_) he hpl
  subst ev
  cases r1 with
  | @cons _ u0 _ ur ra rw' =>
    obtain rfl : u0 = Value.ref a := ra
    have hlen : ur.length ≤ sizeLine := by
      rw [← Paired.length rw', sizeLine_eq]
      omega
    exact oinit_ok T I1 ea hlen fun s' J => ⟨.non, H1, J, rfl, q⟩
end
abbrev PLn (l : Int) : Prop := -4611686018427387904 ≤ l ∧ l < 4611686018427387904
theorem PLn.small {l : Int} (h : PLn l) : l.natAbs.log2 < 1920 := by
  by_cases h0 : l.natAbs = 0
  · rw [h0]; decide
  · refine Nat.lt_of_lt_of_le ((Nat.log2_lt (k := 63) h0).mpr ?_) (by decide)
    have := h.1
    have := h.2
    omega
def lnF (l c : Int) : List (Str × V) := [("column", .int c), ("line", .int l)]
/-- what its __init__ does -/
def spIL (K : PySem.W.Frag) : Sp := fun vs H Q _ => ∃ (a : Addr) (l c : Int), vs = [.ref a, .int l, .int c] ∧ PLn l ∧ PLn c ∧ OexC K (exC K 0) ∧ NoAttr K (exC K 0) "line" ∧ NoAttr K (exC K 0) "column" ∧ H a = some (exo a (exC K 0) none) ∧
  ∀ d, H d = none → d ≠ a → Q .non (upd (upd (upd H d (exd d [("line", .int l)])) a (exo a (exC K 0) (some d))) d (exd d (lnF l c)))
theorem spIL_len {K : PySem.W.Frag} : ∀ vs H Q E, spIL K vs H Q E → vs.length = 3 := fun vs H Q E ⟨_, _, _, e, _⟩ => by rw [e]; rfl
section
variable {ρ ρ' κ β : Type} {E : En ρ} {E' : En ρ'} {Ec : En κ} {tA : TA} {K : PySem.W.Frag} {R : RRt β} {E0 : XK}
theorem ss_raiseL {f : ρ → Option (Int × Int × Unit)} (O : OFa K) (n1 : NoAttr K (exC K 0) "line") (n2 : NoAttr K (exC K 0) "column") (ha : SA tA E (aC jI (aC jI aN)) f) : SS (fun _ σ H => tMkO (exC K 0) (spIL K) [] tA σ H fun cls d H' => (fun c d (_ : L2.St) H => E0 c d H : WX) cls d σ H') E E' Ec (rX K E0 R) (fun γ => ob (f γ) fun z => pck (PLn z.1 ∧ PLn z.2.1) (.ret (.error (0, z.1, z.2.1)))) := ⟨fun {σ F0 H0 F H L γ r D} O' hE e fin => by
  obtain ⟨⟨l, c, u⟩, e1, e⟩ := ob_some e
  obtain ⟨⟨b1, b2⟩, e2⟩ := pck_some e
  subst e2
  refine ha O'.fh (Held.of O') hE e1 fun vs F1 H1 s1 r1 => ?_
  obtain ⟨v1, w1, e3, r1, v2, w2, e4, r2, e5⟩ := r1
  subst e5 e4 e3
  cases r1
  cases r2
  refine ⟨by show 2 ≤ 1000; decide, fun a na => ⟨a, l, c, rfl, b1, b2, O.oc, n1, n2, upd_same, fun d nd dne => ⟨rfl, d, lnF l c, ?_, upd_same, ?_, ?_⟩⟩⟩
  · rw [upd_ne (Ne.symm dne), upd_same]
  · rw [upd_ne dne] at nd; exact nd
  · rw [upd_ne dne] at nd
    have eH : upd (del (upd (upd (upd (upd H1 a (exo a (exC K 0) none)) d (exd d [("line", .int l)])) a (exo a (exC K 0) (some d))) d (exd d (lnF l c))) a) d (.xd (lnF l c)) = upd H1 d (.xd (lnF l c)) := by
      funext b
      by_cases hd : b = d
      · subst hd
        rw [upd_same, upd_same]
      · rw [upd_ne hd, upd_ne hd]
        by_cases hb : b = a
        · subst hb
          rw [del_same, na]
        · rw [del_ne hb, upd_ne hd, upd_ne hb, upd_ne hd, upd_ne hb]
    rw [eH]
    have O1 := Own.on O' s1
    rw [List.nil_append] at O1
    have O2 := (O1.ice nd (.xd (lnF l c)))
    exact fin (.ref (exC K 0)) (some d) _ _ (s1.f0.trans fun b u e => by rw [upd_ne (ne_of_none e (O1.fh.free nd))]; exact e) ((OwnSb O2 (Sb.nil _)).chunks trivial) ⟨rfl, .inl ⟨rfl, d, lnF l c, rfl, upd_same, rfl, rfl⟩⟩⟩
end
end Mi

namespace Mi
open PySem PySem.Spec PyProof.Rows L2 Fw
theorem Paired.dr {α β : Type} {A : α → β → Prop} : ∀ {xs : List α} {ys : List β} (n : Nat), Paired A xs ys → Paired A (xs.drop n) (ys.drop n)
  | _, _, 0, h => h
  | _, _, _ + 1, .nil => .nil
  | _, _, n + 1, .cons _ h => Paired.dr n h
theorem Paired.era {α β : Type} {A : α → β → Prop} {xs : List α} {ys : List β} (n : Nat) (h : Paired A xs ys) : Paired A (xs.eraseIdx n) (ys.eraseIdx n) := by
  rw [List.eraseIdx_eq_take_drop_succ, List.eraseIdx_eq_take_drop_succ]
  exact Paired.app (Paired.tk n h) (Paired.dr (n + 1) h)
/-! ### pop(i), insert(i, y) -/
section
variable {ρ ρ' κ α β : Type} {E : En ρ} {E' : En ρ'} {Ec : En κ} {ta te : TE} {K : PySem.W.Frag} {R' : RRt β} {u : TS}
theorem ss_popAt {i : Nat} {R : Rp α} {g : ρ → List α} {up : List α → ρ → ρ} {fi : ρ → Option Int} {m : ρ → Option (Res ρ' κ β)} (hu' : Up E i R g up) (hi : SE ta E (sF jI) fi) (hu : SS u E E' Ec R' m) :
    SS (tSeq (tDrop (tBM K "list" rPopAt (tVar i) (tCons ta tNil))) u) E E' Ec R' (fun γ => ob (fi γ) fun j => ob (pck ((0 ≤ j ∧ j < 4611686018427387904) ∧ j.toNat < (g γ).length) ((g γ).eraseIdx j.toNat)) fun ys => m (up ys γ)) := ⟨fun O hE e fin => by
  obtain ⟨k, e1, e⟩ := ob_some e
  obtain ⟨ys, e2, e⟩ := ob_some e
  obtain ⟨⟨pz, pl⟩, rfl⟩ := pck_some e2
  obtain ⟨p, vs, j, h1, h2, h3, h4⟩ := hu' hE
  refine ⟨.ref p, h1, tyL (O.at_ j h2) ?_⟩
  refine hi O.fh (Held.of O) hE e1 fun v F1 H1 L1 s1 ⟨z1, r1⟩ => ?_
  subst z1
  cases r1
  have O1 := Own.on O s1
  rw [List.nil_append] at O1
  have hl := Paired.len h3
  have hk : k.toNat < vs.length := by omega
  refine ⟨p, vs, k, k.toNat, vs[k.toNat], rfl, rfl, O1.at_ j h2, by omega, by omega, ?_, List.getElem?_eq_getElem hk, ?_⟩
  · unfold seqIndex?
    have e : (if k < 0 then k + (vs.length : Int) else k) = k := if_neg (by omega)
    have e2 : (decide (0 ≤ k) && decide (k < (vs.length : Int))) = true := by rw [decide_eq_true (by omega), decide_eq_true (by omega)]; rfl
    simp only [e, e2]
    rfl
  · exact hu.run (O1.set j h2 _) (h4 F1 _ _ s1.f0 (Paired.era _ (Paired.mono (fun _ _ q => R.m s1.f0 q) h3))) e (fin.mo s1.f0)⟩
theorem ss_insert {i : Nat} {R : Rp α} {g : ρ → List α} {up : List α → ρ → ρ} {fi : ρ → Option Int} {fe : ρ → Option α} {m : ρ → Option (Res ρ' κ β)} (hu' : Up E i R g up) (hi : SE ta E (sF jI) fi) (he : SE te E (sF R) fe) (hu : SS u E E' Ec R' m) :
    SS (tSeq (tDrop (tBM K "list" (fun x vs H Q => ∃ (l : Addr) (xs : List V) (i : Int) (y : V), x = .ref l ∧ vs = [.int i, y] ∧ H l = some (.lst xs) ∧ xs.length < sizeLine ∧ 0 ≤ i ∧ i < 2 ^ 63 ∧ Q .non (upd H l (.lst (xs.take i.toNat ++ [y] ++ xs.drop i.toNat)))) (tVar i) (tCons ta (tCons te tNil)))) u) E E' Ec R'
      (fun γ => ob (fi γ) fun j => ob (fe γ) fun y => ob (pck ((0 ≤ j ∧ j < 4611686018427387904) ∧ (g γ).length < sz) ((g γ).take j.toNat ++ [y] ++ (g γ).drop j.toNat)) fun ys => m (up ys γ)) := ⟨fun O hE e fin => by
  obtain ⟨k, e1, e⟩ := ob_some e
  obtain ⟨y, e3, e⟩ := ob_some e
  obtain ⟨ys, e2, e⟩ := ob_some e
  obtain ⟨⟨pz, pl⟩, rfl⟩ := pck_some e2
  obtain ⟨p, vs, j, h1, h2, h3, h4⟩ := hu' hE
  refine ⟨.ref p, h1, tyL (O.at_ j h2) ?_⟩
  refine hi O.fh (Held.of O) hE e1 fun v F1 H1 L1 s1 ⟨z1, r1⟩ => ?_
  subst z1
  cases r1
  have O1 := Own.on O s1
  rw [List.nil_append] at O1
  refine he O1.fh (Held.of O1) (E.m s1.f0 hE) e3 fun w F2 H2 L2 s2 ⟨z2, r2⟩ => ?_
  subst z2
  have O2 := Own.on O1 s2
  rw [List.nil_append] at O2
  have sF := s1.f0.trans s2.f0
  have hq := Paired.mono (fun _ _ q => R.m sF q) h3
  refine ⟨p, vs, k, w, rfl, rfl, O2.at_ j h2, sz_lt (by rw [Paired.len h3]; exact pl), by omega, by omega, ?_⟩
  exact hu.run (O2.set j h2 _) (h4 F2 _ _ sF (Paired.app (Paired.app (Paired.tk _ hq) (.cons r2 .nil)) (Paired.dr _ hq))) e (fin.mo sF)⟩
end
/-! ### calls that may raise, within larger expressions -/
section
variable {ρ ρ' κ α β δ τ : Type} {E : En ρ} {E' : En ρ'} {Ec : En κ} {ta tb te : TE} {tA tr : TA} {K : PySem.W.Frag} {W : WX} {A : Rp α} {B : Rp β} {E0 : XK} {R0 : RRt τ} {u : TS}
theorem sx_op {r : R2} {s : Sl δ} {fa : ρ → Option α} {fb : ρ → Option (Except Exn β)} {g : α → β → Option δ} (ha : SE ta E (sF A) fa) (hb : SEX K W tb E (sF B) fb) (hs : S2 r A B s g) : SEX K W (tOp r ta tb) E s (fun γ => ob (fa γ) fun x => obx (fb γ) fun y => ob (g x y) fun z => some (.ok z)) := ⟨fun {σ F H L γ x Q} s0 hL he e k => by
  obtain ⟨x1, e1, e⟩ := ob_some e
  obtain ⟨y, e2, e⟩ := ob_some e
  refine ha s0 hL he e1 fun v F1 H1 L1 s1 ⟨z1, r1⟩ => ?_
  subst z1
  refine hb.run s1.fh (hL.mono s1.hh) (E.m s1.f0 he) e2 ?_
  cases y with
  | ok y =>
    obtain ⟨z, e3, e⟩ := ob_some e
    cases e
    refine fun w F2 H2 L2 s2 ⟨z2, r2⟩ => ?_
    subst z2
    exact hs s2.fh (A.m s2.f0 r1) r2 e3 fun z F3 H3 L3 s3 r3 => k z F3 H3 L3 (s1.tr (s2.tr s3)) r3
  | error er =>
    cases e
    exact fun cls d F2 H2 s2 r2 => k cls d F2 H2 (s1.tr s2) r2⟩
theorem sx_fz {f : ρ → Option (Except Exn (List α))} (h : SEX K W te E (sO A) f) : SEX K W te E (sF (jL A)) f := ⟨fun {σ F H L γ x Q} s0 hL he e k => by
  refine h.run s0 hL he e ?_
  cases x with
  | ok x =>
    refine fun v F' H' L1 s2 ⟨p, vs, e1, e2, q⟩ => ?_
    subst e1 e2
    have sP : Same F' (upd F' p (.lst vs)) := fun b u e => by rw [upd_ne (ne_of_none e ((s2.own (p, .lst vs) List.mem_cons_self)).1)]; exact e
    exact k _ _ _ [] (s2.freeze.chunks trivial) ⟨rfl, p, vs, rfl, upd_same, Paired.mono (fun _ _ q => A.m sP q) q⟩
  | error er => exact k⟩
structure SAX (K : PySem.W.Frag) (W : WX) (t : TA) (E : En ρ) (A : Ar α) (f : ρ → Option (Except Exn α)) : Prop where
  run : ∀ {σ : L2.St} {F H : Hp} {L : List (Addr × HO)} {γ : ρ} {x : Except Exn α} {Q : List V → Hp → Prop}, Same F H → Held H L → E.r σ F L γ → f γ = some x → (match x with
    | .ok x => ∀ vs F' H', Step F H F' H' [] → A.r F' vs x → Q vs H'
    | .error e => ∀ cls d F' H', Step F H F' H' [] → exR K e cls d F' → W cls d σ H') → t σ H Q
theorem stX1 {fa : ρ → Option (Except Exn α)} (ha : SEX K W ta E (sF A) fa) : SAX K W (tCons ta tNil) E (aT (y1 A)) fa := ⟨fun {σ F H L γ x Q} s0 hL he e k => by
  refine ha.run s0 hL he e ?_
  cases x with
  | ok x =>
    refine fun v F1 H1 L1 s1 ⟨z1, r1⟩ => ?_
    subst z1
    exact k _ _ _ s1 ⟨v, rfl, r1⟩
  | error er => exact k⟩
theorem stXC {T : Tp β} {fa : ρ → Option α} {fr : ρ → Option (Except Exn β)} (ha : SE ta E (sF A) fa) (hr : SAX K W tr E (aT T) fr) : SAX K W (tCons ta tr) E (aT (yC A T)) (fun γ => ob (fa γ) fun x => obx (fr γ) fun y => some (.ok (x, y))) := ⟨fun {σ F H L γ x Q} s0 hL he e k => by
  obtain ⟨x1, e1, e⟩ := ob_some e
  obtain ⟨y, e2, e⟩ := ob_some e
  refine ha s0 hL he e1 fun v F1 H1 L1 s1 ⟨z1, r1⟩ => ?_
  subst z1
  refine hr.run s1.fh (hL.mono s1.hh) (E.m s1.f0 he) e2 ?_
  cases y with
  | ok y =>
    cases e
    exact fun vs F2 H2 s2 r2 => k _ _ _ (s1.tr s2) ⟨v, vs, rfl, A.m s2.f0 r1, r2⟩
  | error er =>
    cases e
    exact fun cls d F2 H2 s2 r2 => k cls d F2 H2 (s1.tr s2) r2⟩
theorem sx_tup {T : Tp α} {f : ρ → Option (Except Exn α)} {n j : Nat} {R : Rp β} {g : α → β} (h : SAX K W tA E (aT T) f) (hn : Tat T n j R g) (hz : n ≤ sz := by decide) : SEX K W (tTup tA) E (sF (jT T)) f := ⟨fun {σ F H L γ x Q} s0 hL he e k => by
  refine h.run s0 hL he e ?_
  cases x with
  | ok x =>
    refine fun vs F1 H1 s1 r1 => ?_
    refine ⟨sz_le (by rw [show vs.length = n from (hn r1).1]; exact hz), fun p np => ?_⟩
    have s2 := (Step.nil s1.fh).ice np (.tup vs)
    exact k _ _ _ [] (s1.tr (s2.chunks trivial)) ⟨rfl, p, vs, rfl, upd_same, T.m s2.f0 r1⟩
  | error er => exact k⟩
/-- append of what may raise -/
theorem ss_appX {i : Nat} {R : Rp α} {g : ρ → List α} {up : List α → ρ → ρ} {fe : ρ → Option (Except Exn α)} {m : ρ → Option (Res ρ' κ (Except Exn τ))} (hu' : Up E i R g up) (he : SEX K (fun c d _ H => E0 c d H) te E (sF R) fe) (hu : SS u E E' Ec (rX K E0 R0) m) :
    SS (tSeq (tDrop (tBM K "list" rAppend (tVar i) (tCons te tNil))) u) E E' Ec (rX K E0 R0) (fun γ => rbx (fe γ) fun y => ob (pck ((g γ).length < sz) (g γ ++ [y])) fun ys => m (up ys γ)) := ⟨fun {σ F0 H0 F H L γ r D} O hE e fin => by
  obtain ⟨x, e1, e⟩ := ob_some e
  obtain ⟨p, vs, j, h1, h2, h3, h4⟩ := hu' hE
  refine ⟨.ref p, h1, tyL (O.at_ j h2) ?_⟩
  refine he.run O.fh (Held.of O) hE e1 ?_
  cases x with
  | ok x =>
    obtain ⟨ys, e2, e⟩ := ob_some e
    obtain ⟨pz, rfl⟩ := pck_some e2
    refine fun v F1 H1 L1 s1 ⟨z1, r1⟩ => ?_
    subst z1
    have O1 := Own.on O s1
    rw [List.nil_append] at O1
    exact w_app (Q := fun _ H' => u _ _ H') O1 h2 (fun H' O2 => hu.run O2 (h4 F1 _ _ s1.f0 (Paired.app (Paired.mono (fun _ _ q => R.m s1.f0 q) h3) (.cons r1 .nil))) e (fin.mo s1.f0)) (sz_lt (by rw [Paired.len h3]; exact pz))
  | error er =>
    cases e
    exact fun cls d F1 H1 s1 r1 => fin cls d F1 H1 s1.f0 (OwnSb (Own.on O s1) (Sb.nil _)) r1⟩
end
/-! ### a great number, kept shut -/
noncomputable def lit (n : Int) : Int := Classical.choose (⟨n, rfl⟩ : ∃ x : Int, x = n)
theorem lit_eq (n : Int) : lit n = n := Classical.choose_spec (⟨n, rfl⟩ : ∃ x : Int, x = n)
theorem se_lit {ρ : Type} {E : En ρ} {i : Int} : SE (tC (.int i)) E (sF jI) (fun _ => some (lit i)) := by
  rw [lit_eq]
  exact se_int
end Mi

namespace Mi
open PySem PySem.Spec PyProof.Rows L2 Fw
/-! ### a frame that holds the interpreter's statics too -/
abbrev frY (n : Nat) (g : Addr → Option Obj) : PySem.W.Frag := He.frG g (He.asD g n ++ [cStatics])
def obsY (n : Nat) (fa : List He.Fa) (fn : List He.DefD) (ex : PySem.W.Frag → Bool) (g : Addr → Option Obj) : He.AlD × Bool := (He.obsD fa fn (frY n g), ex (frY n g))
structure SaysY (fa : List He.Fa) (fn : List He.DefD) (ex : PySem.W.Frag → Bool) (K : PySem.W.Frag) : Prop where
  d : He.SaysD fa fn K
  more : ex K = true
def hookY (n : Nat) (fa : List He.Fa) (fn : List He.DefD) (ex : PySem.W.Frag → Bool) : PySem.W.Hook where
  α := He.AlD × Bool
  obs := fun s => obsY n fa fn ex s.heap.get?
  val := fun _ => (He.valD fn, true)
  says := fun _ h => ∃ K : PySem.W.Frag, K.In h ∧ SaysY fa fn ex K
  of := fun _ _ e => ⟨_, He.frG_in, congrArg Prod.fst e, congrArg Prod.snd e⟩
  keeps := fun _ _ _ ⟨K, hK, c⟩ k => ⟨K, PySem.W.Frag.In.keeps hK k, c⟩
theorem obsY_eq {n : Nat} {fa : List He.Fa} {fn : List He.DefD} {ex : PySem.W.Frag → Bool} {g : Addr → Option Obj} {s : Shared} (h : ∀ a, g a = s.heap.get? a) : obsY n fa fn ex g = (hookY n fa fn ex).obs s := by
  have e : g = s.heap.get? := funext h
  rw [e] <;> rfl
end Mi

namespace Mi
open PySem PySem.Spec PyProof.Rows L2 Fw
/-! ### objects of own classes -/
structure Fd (ρ : Type) where
  nm : List Str
  r : List (Str × V) → Hp → List (Addr × HO) → ρ → Prop
  m : ∀ {fs : List (Str × V)} {F F' : Hp} {L : List (Addr × HO)} {x : ρ}, Same F F' → r fs F L x → r fs F' L x
  c : ∀ {fs fs' : List (Str × V)} {F : Hp} {L : List (Addr × HO)} {x : ρ}, (∀ f ∈ nm, fs'.lookup f = fs.lookup f) → r fs F L x → r fs' F L x
def fdN : Fd Unit := ⟨[], fun _ _ L _ => L = [], fun _ h => h, fun _ h => h⟩
section
variable {α β δ τ τ' ρ ρ' ρ'' κ : Type}
def fdC (f : Str) (s : Sl α) (T : Fd ρ) : Fd (α × ρ) := ⟨f :: T.nm, fun fs F L γ => ∃ v L1 L2, fs.lookup f = some v ∧ L = L1 ++ L2 ∧ s.r v F L1 γ.1 ∧ T.r fs F L2 γ.2,
  fun z ⟨v, L1, L2, e, e2, h, t⟩ => ⟨v, L1, L2, e, e2, s.m z h, T.m z t⟩,
  fun z ⟨v, L1, L2, e, e2, h, t⟩ => ⟨v, L1, L2, (z f List.mem_cons_self).trans e, e2, h, T.c (fun g hg => z g (List.mem_cons_of_mem _ hg)) t⟩⟩
def NmOk (ns : List Str) (fs : List (Str × V)) : Prop := fs.length ≤ ns.length ∧ ∀ m, m ∉ ns → fs.lookup m = none
theorem putF_old {f : Str} {v x : V} : ∀ {fs : List (Str × V)}, fs.lookup f = some x → (putF f v fs).length = fs.length
  | [], h => nomatch h
  | (g, y) :: r, h => by
    rw [putF]
    by_cases e : g = f
    · rw [if_pos e]; rfl
    · rw [if_neg e, List.length_cons, List.length_cons]
      have e2 : (f == g) = false := beq_eq_false_iff_ne.mpr fun z => e z.symm
      rw [List.lookup_cons, e2] at h
      rw [putF_old h]
theorem NmOk.new {ns : List Str} {fs : List (Str × V)} {f : Str} {v : V} (h : NmOk ns fs) : NmOk (f :: ns) (putF f v fs) := by
  refine ⟨Nat.le_trans (length_putF f v fs) (Nat.succ_le_succ h.1), fun m hm => ?_⟩
  rw [lookup_putF, if_neg fun z => hm (by rw [z]; exact List.mem_cons_self)]
  exact h.2 m fun z => hm (List.mem_cons_of_mem _ z)
theorem NmOk.old {ns : List Str} {fs : List (Str × V)} {f : Str} {v x : V} (h : NmOk ns fs) (e : fs.lookup f = some x) : NmOk ns (putF f v fs) := by
  refine ⟨by rw [putF_old e]; exact h.1, fun m hm => ?_⟩
  rw [lookup_putF, if_neg fun z => ?_]
  · exact h.2 m hm
  · rw [← z, h.2 m hm] at e
    cases e
/-- an own object -/
def sI (C : Addr) (T : Fd ρ) : Sl ρ := ⟨fun v F L γ => ∃ a dx fs M, v = .ref a ∧ L = (a, .ins C dx fs) :: (dx, .own a) :: M ∧ NmOk T.nm fs ∧ T.r fs F M γ, fun z ⟨a, dx, fs, M, h1, h2, h3, h4⟩ => ⟨a, dx, fs, M, h1, h2, h3, T.m z h4⟩⟩
/-- the own object at a -/
def sIA (a : Addr) (C : Addr) (T : Fd ρ) : Sl ρ := ⟨fun v F L γ => v = .ref a ∧ ∃ dx fs M, L = (a, .ins C dx fs) :: (dx, .own a) :: M ∧ NmOk T.nm fs ∧ T.r fs F M γ, fun z ⟨h1, dx, fs, M, h2, h3, h4⟩ => ⟨h1, dx, fs, M, h2, h3, T.m z h4⟩⟩
/-- an object that does not change -/
def jX (C : Addr) (T : Fd ρ) : Rp ρ := ⟨fun F v γ => ∃ a dx fs, v = .ref a ∧ F a = some (.ins C dx fs) ∧ F dx = some (.own a) ∧ NmOk T.nm fs ∧ T.r fs F [] γ, fun z ⟨a, dx, fs, h1, h2, h3, h4, h5⟩ => ⟨a, dx, fs, h1, z _ _ h2, z _ _ h3, h4, T.m z h5⟩⟩
/-! frozen -/
structure FzT (T : Fd ρ) (T' : Fd ρ) : Prop where
  nm : T'.nm = T.nm
  run : ∀ {F0 H0 F H : Hp} {M Z : List (Addr × HO)} {fs : List (Str × V)} {γ : ρ}, Own F0 H0 F H (M ++ Z) [] → T.r fs F M γ → ∃ F', Same F F' ∧ Own F0 H0 F' H Z [] ∧ T'.r fs F' [] γ
theorem fztN : FzT fdN fdN := ⟨rfl, fun {_ _ F _ _ _ _ _} O h => by
  have h : _ = [] := h
  subst h
  exact ⟨F, Same.refl _, O, rfl⟩⟩
theorem fztC {f : Str} {s : Sl α} {R : Rp α} {T T' : Fd ρ} (h : Fz s R) (t : FzT T T') : FzT (fdC f s T) (fdC f (sF R) T') := ⟨by show f :: T'.nm = f :: T.nm; rw [t.nm], fun O ⟨v, L1, L2, e, e2, r1, r2⟩ => by
  subst e2
  rw [List.append_assoc] at O
  obtain ⟨F1, s1, O1, q1⟩ := h.run O r1
  obtain ⟨F2, s2, O2, q2⟩ := t.run O1 (T.m s1 r2)
  exact ⟨F2, s1.trans s2, O2, v, [], [], e, rfl, ⟨rfl, R.m s2 q1⟩, q2⟩⟩
theorem fzI {C : Addr} {T T' : Fd ρ} (t : FzT T T') : Fz (sI C T) (jX C T') := ⟨fun {_ _ F _ _ _ _ _} O ⟨a, dx, fs, M, e1, e2, h3, h4⟩ => by
  subst e1 e2
  have O1 := ((show Own _ _ _ _ ((a, HO.ins C dx fs) :: ((dx, HO.own a) :: (M ++ _))) [] from O).freeze).chunks (C' := []) trivial
  have s1 : Same F (upd F a (.ins C dx fs)) := fun b u e => by rw [upd_ne (ne_of_none e ((O.own (a, .ins C dx fs) List.mem_cons_self)).1)]; exact e
  have O2 := O1.freeze.chunks (C' := []) trivial
  have n2 := (O1.own (dx, .own a) List.mem_cons_self).1
  have s2 : Same (upd F a (.ins C dx fs)) (upd (upd F a (.ins C dx fs)) dx (.own a)) := fun b u e => by rw [upd_ne (ne_of_none e n2)]; exact e
  obtain ⟨F3, s3, O3, q3⟩ := t.run O2 (T.m (s1.trans s2) h4)
  exact ⟨F3, s1.trans (s2.trans s3), O3, a, dx, fs, rfl, s3 _ _ (s2 _ _ upd_same), s3 _ _ upd_same, by rw [t.nm]; exact h3, q3⟩⟩
theorem fzO {R : Rp α} : Fz (sO R) (jL R) := ⟨fun {_ _ F _ _ _ _ _} O ⟨p, vs, e1, e2, q⟩ => by
  subst e1 e2
  have O1 := ((show Own _ _ _ _ ((p, HO.lst vs) :: _) [] from O).freeze).chunks (C' := []) trivial
  have s1 : Same F (upd F p (.lst vs)) := fun b u e => by rw [upd_ne (ne_of_none e ((O.own (p, .lst vs) List.mem_cons_self)).1)]; exact e
  exact ⟨_, s1, O1, p, vs, rfl, upd_same, Paired.mono (fun _ _ q => R.m s1 q) q⟩⟩
/-! fields -/
structure FG (T : Fd ρ) (f : Str) (s : Sl α) (g : ρ → α) : Prop where
  run : ∀ {fs : List (Str × V)} {F : Hp} {M : List (Addr × HO)} {γ : ρ}, T.r fs F M γ → ∃ v L1, fs.lookup f = some v ∧ (∀ q ∈ L1, q ∈ M) ∧ s.r v F L1 (g γ)
theorem fg0 {f : Str} {s : Sl α} {T : Fd ρ} : FG (fdC f s T) f s (fun γ => γ.1) := ⟨fun ⟨v, L1, L2, e, e2, h, _⟩ => ⟨v, L1, e, fun q hq => by rw [e2]; exact List.mem_append_left _ hq, h⟩⟩
theorem fgS {f h : Str} {s : Sl α} {s' : Sl β} {T : Fd ρ} {g : ρ → α} (t : FG T f s g) : FG (fdC h s' T) f s (fun γ => g γ.2) := ⟨fun ⟨v, L1, L2, e, e2, _, r⟩ => by
  obtain ⟨u, M1, h1, h2, h3⟩ := t.run r
  exact ⟨u, M1, h1, fun q hq => by rw [e2]; exact List.mem_append_right _ (h2 q hq), h3⟩⟩
structure FX (T : Fd ρ) (f : Str) (s : Sl α) (g : ρ → α) (up : α → ρ → ρ) : Prop where
  run : ∀ {fs : List (Str × V)} {F : Hp} {M : List (Addr × HO)} {γ : ρ}, T.r fs F M γ → ∃ v pre L1 post, fs.lookup f = some v ∧ M = pre ++ (L1 ++ post) ∧ s.r v F L1 (g γ) ∧
    ∀ F' fs' v' L1' x', Same F F' → fs'.lookup f = some v' → (∀ h, h ≠ f → fs'.lookup h = fs.lookup h) → s.r v' F' L1' x' → T.r fs' F' (pre ++ (L1' ++ post)) (up x' γ)
theorem fx0 {f : Str} {s : Sl α} {T : Fd ρ} (hn : f ∉ T.nm := by decide) : FX (fdC f s T) f s (fun γ => γ.1) (fun x γ => (x, γ.2)) := ⟨fun ⟨v, L1, L2, e, e2, h, t⟩ =>
  ⟨v, [], L1, L2, e, e2, h, fun F' fs' v' L1' x' z el eo r' => ⟨v', L1', L2, el, rfl, r', T.c (fun k hk => eo k fun y => hn (y ▸ hk)) (T.m z t)⟩⟩⟩
theorem fxS {f h : Str} {s : Sl α} {s' : Sl β} {T : Fd ρ} {g : ρ → α} {up : α → ρ → ρ} (t : FX T f s g up) (hn : h ≠ f := by decide) : FX (fdC h s' T) f s (fun γ => g γ.2) (fun x γ => (γ.1, up x γ.2)) := ⟨fun ⟨v, L1, L2, e, e2, q, r⟩ => by
  subst e2
  obtain ⟨u, pre, M1, post, h1, h2, h3, h4⟩ := t.run r
  subst h2
  refine ⟨u, L1 ++ pre, M1, post, h1, by rw [List.append_assoc], h3, fun F' fs' v' L1' x' z el eo r' => ⟨v, L1, pre ++ (L1' ++ post), (eo h hn).trans e, by rw [List.append_assoc], s'.m z q, h4 F' fs' v' L1' x' z el eo r'⟩⟩⟩
/-! a name's thing, which may get another kind -/
structure Fy (E : En ρ) (i : Nat) (s : Sl α) (g : ρ → α) (E' : En ρ') (s' : Sl β) (up : β → ρ → ρ') : Prop where
  run : ∀ {σ : L2.St} {F : Hp} {L : List (Addr × HO)} {γ : ρ}, E.r σ F L γ → ∃ v pre L1 post, σ[i]? = some (some v) ∧ L = pre ++ (L1 ++ post) ∧ s.r v F L1 (g γ) ∧ ∀ F' L1' x', Same F F' → s'.r v F' L1' x' → E'.r σ F' (pre ++ (L1' ++ post)) (up x' γ)
theorem y0 {E : En ρ} {s : Sl α} {s' : Sl β} : Fy (eC s E) 0 s (fun γ => γ.1) (eC s' E) s' (fun x γ => (x, γ.2)) := ⟨fun ⟨v, σ', L1, L2, e1, e2, h, t⟩ => by
  subst e1 e2
  exact ⟨v, [], L1, L2, rfl, rfl, h, fun F' L1' x' z h' => ⟨v, σ', L1', L2, rfl, rfl, h', E.m z t⟩⟩⟩
theorem yU {E : En ρ} {E' : En ρ'} {i : Nat} {s : Sl α} {s' : Sl β} {g : ρ → α} {up : β → ρ → ρ'} (h : Fy E i s g E' s' up) : Fy (eU E) (i + 1) s g (eU E') s' up := ⟨fun ⟨o, σ', e, t⟩ => by
  subst e
  obtain ⟨v, pre, L1, post, h1, h2, h3, h4⟩ := h.run t
  exact ⟨v, pre, L1, post, h1, h2, h3, fun F' L1' x' z h' => ⟨o, σ', rfl, h4 F' L1' x' z h'⟩⟩⟩
theorem yS {E : En ρ} {E' : En ρ'} {i : Nat} {s : Sl α} {s' : Sl β} {s2 : Sl δ} {g : ρ → α} {up : β → ρ → ρ'} (h : Fy E i s g E' s' up) : Fy (eC s2 E) (i + 1) s (fun γ => g γ.2) (eC s2 E') s' (fun x γ => (γ.1, up x γ.2)) := ⟨fun ⟨v', σ', La, L2, e1, e2, q, t⟩ => by
  subst e1 e2
  obtain ⟨v, pre, L1, post, h1, h2, h3, h4⟩ := h.run t
  subst h2
  exact ⟨v, La ++ pre, L1, post, h1, by rw [List.append_assoc], h3, fun F' L1' x' z h' => ⟨v', σ', La, _, rfl, by rw [List.append_assoc], s2.m z q, h4 F' L1' x' z h'⟩⟩⟩
theorem pswap {A B D : List (Addr × HO)} : (A ++ (B ++ D)).Perm (B ++ (A ++ D)) := by
  rw [← List.append_assoc, ← List.append_assoc]
  exact List.perm_append_comm.append_right D
/-- own objects at a place among others are changed -/
theorem Own.at1 {F0 H0 F H : Hp} {C : List Ck} {pre post A : List (Addr × HO)} {p : Addr} {o o' : HO} (O : Own F0 H0 F H (A ++ (pre ++ ((p, o) :: post))) C) : Own F0 H0 F (upd H p o') (A ++ (pre ++ ((p, o') :: post))) C := by
  have e : ∀ q : Addr × HO, A ++ (pre ++ (q :: post)) = (A ++ pre) ++ (q :: post) := fun q => by rw [List.append_assoc]
  rw [e] at O ⊢
  have := O.set (A ++ pre).length (a := p) (o := o) (by rw [List.getElem?_append_right (Nat.le_refl _), Nat.sub_self]; rfl) o'
  rw [List.set_append_right _ _ (Nat.le_refl _), Nat.sub_self] at this
  exact this
end
section
variable {α β δ τ τ' ρ ρ' ρ'' κ ε : Type} {E : En ρ} {E' : En ρ'} {E1 : En ρ''} {Ec : En κ} {ta tb tc te ti t : TE} {tA : TA} {A : Ar α} {R : Rp α} {K : PySem.W.Frag} {s : RRt β} {u : TS} {i : Nat} {f : Str} {C pp : Addr}
/-! reading -/
theorem sIA_sI {T : Fd τ} {v : V} {F : Hp} {L : List (Addr × HO)} {x : τ} (h : (sIA pp C T).r v F L x) : (sI C T).r v F L x := by
  obtain ⟨h1, dx, fs, M, h2, h3, h4⟩ := h
  exact ⟨pp, dx, fs, M, h1, h2, h3, h4⟩
theorem gIA {T : Fd τ} {g : ρ → τ} (h : Gt E i (sIA pp C T) g) : Gt E i (sI C T) g := ⟨fun e => by
  obtain ⟨v, L1, h1, h2, h3⟩ := h e
  exact ⟨v, L1, h1, h2, sIA_sI h3⟩⟩
theorem se_fldO {T : Fd τ} {g : ρ → τ} {gf : τ → α} (cl : Cls K C) (na : NoAttr K C f) (hg : Gt E i (sI C T) g) (hf : FG T f (sF R) gf) : SE (tFld K (tVar i) f) E (sF R) (fun γ => some (gf (g γ))) := ⟨fun s0 hL hE e k => by
  cases e
  obtain ⟨v, L1, h1, h2, a, dx, fs, M, h3, h4, h5, h6⟩ := hg hE
  subst h3 h4
  obtain ⟨w, L3, q1, q2, q3, q4⟩ := hf.run h6
  exact ⟨_, h1, a, C, dx, fs, w, rfl, hL _ (h2 _ List.mem_cons_self), cl, na, q1, k w _ _ [] (Step.nil s0) ⟨rfl, q4⟩⟩⟩
theorem se_fldF {T : Fd τ} {fa : ρ → Option τ} {gf : τ → α} (cl : Cls K C) (na : NoAttr K C f) (ha : SE ta E (sF (jX C T)) fa) (hf : FG T f (sF R) gf) : SE (tFld K ta f) E (sF R) (fun γ => ob (fa γ) fun x => some (gf x)) := ⟨fun s0 hL hE e k => by
  obtain ⟨x, e1, e⟩ := ob_some e
  cases e
  refine ha s0 hL hE e1 fun v F1 H1 L1 s1 ⟨z1, a, dx, fs, h1, h2, h3, h4, h5⟩ => ?_
  subst z1 h1
  obtain ⟨w, L3, q1, q2, q3, q4⟩ := hf.run h5
  exact ⟨a, C, dx, fs, w, rfl, s1.fh _ _ h2, cl, na, q1, k w F1 H1 [] s1 ⟨rfl, q4⟩⟩⟩
/-- a method of an object that does not change -/
theorem se_meth {m : Str} {T : Fd τ} {fa : ρ → Option τ} {fs : ρ → Option α} {sr : Sl δ} {mm : τ × α → Option δ} {Ex : XK} (ha : SE ta E (sF (jX C T)) fa) (hs : SA tA E A fs) (hm : m ∉ T.nm) :
    SE (tMeth C m (spM (aC (jX C T) A) sr mm) [] Ex ta tA) E sr (fun γ => ob (fa γ) fun x => ob (fs γ) fun y => mm (x, y)) := ⟨fun s0 hL hE e k => by
  obtain ⟨x, e1, e⟩ := ob_some e
  obtain ⟨y, e2, e⟩ := ob_some e
  refine ha s0 hL hE e1 fun v F1 H1 L1 s1 ⟨z1, r1⟩ => ?_
  subst z1
  obtain ⟨a, dx, fs, h1, h2, h3, h4, h5⟩ := id r1
  subst h1
  refine ⟨a, dx, fs, rfl, s1.fh _ _ h2, h4.2 m hm, ?_⟩
  refine hs s1.fh (hL.mono s1.hh) (E.m s1.f0 hE) e2 fun vs F2 H2 s2 r2 => ?_
  rw [List.append_nil]
  exact ⟨F2, (x, y), _, s2.fh, ⟨_, vs, rfl, (jX C T).m s2.f0 r1, r2⟩, e, fun v' F' H' L' st r => k v' F' H' L' ((s1.tr s2).tr st) r⟩⟩
/-! ### own objects handed in and changed -/
def cutL (H : Hp) (L : List (Addr × HO)) : Hp := fun b => if b ∈ L.map Prod.fst then none else H b
theorem cutL_in {H : Hp} {L : List (Addr × HO)} {b : Addr} (h : b ∈ L.map Prod.fst) : cutL H L b = none := if_pos h
theorem cutL_out {H : Hp} {L : List (Addr × HO)} {b : Addr} (h : b ∉ L.map Prod.fst) : cutL H L b = H b := if_neg h
theorem cutL_some {H : Hp} {L : List (Addr × HO)} {b : Addr} {o : HO} (h : cutL H L b = some o) : b ∉ L.map Prod.fst ∧ H b = some o := by
  unfold cutL at h
  split at h
  · cases h
  · next q => exact ⟨q, h⟩
theorem Own.lendL {F H : Hp} {L : List (Addr × HO)} (s : Same F (cutL H L)) (h : ∀ q ∈ L, F q.1 = none ∧ H q.1 = some q.2) (nd : (L.map Prod.fst).Nodup) : Own F (cutL H L) F H L [] :=
  ⟨Same.refl _, fun b o e => (cutL_some (s b o e)).2, fun b o e => (cutL_some e).2, fun _ _ h => .inl h, fun q hq => ⟨(h q hq).1, cutL_in (List.mem_map.mpr ⟨q, hq, rfl⟩), (h q hq).2⟩, nd, trivial⟩
theorem Own.lentL {F0 H0 F H F' H' : Hp} {pre L1 post L1' : List (Addr × HO)} {C : List Ck} (O : Own F0 H0 F H (pre ++ (L1 ++ post)) C) (c : Own F (cutL H L1) F' H' L1' []) : Own F0 H0 F' H' (L1' ++ (pre ++ post)) C := by
  have nd := O.nd
  have O2 := O.perm (L' := L1 ++ (pre ++ post)) (by rw [← List.append_assoc, ← List.append_assoc]; exact List.perm_append_comm.append_right post)
  have hdis : ∀ q ∈ pre ++ post, q.1 ∉ L1.map Prod.fst := fun q hq hm => by
    have := O2.nd
    rw [List.map_append, List.nodup_append] at this
    exact this.2.2 _ hm _ (List.mem_map.mpr ⟨q, hq, rfl⟩) rfl
  have hin : ∀ b, b ∈ L1.map Prod.fst → H0 b = none := fun b hb => by
    obtain ⟨q, hq, rfl⟩ := List.mem_map.mp hb
    exact (O2.own q (List.mem_append_left _ hq)).2.1
  have hc : ∀ b u, b ∉ L1.map Prod.fst → H b = some u → H' b = some u := fun b u n e => c.hh b u (by rw [cutL_out n]; exact e)
  have rest : ∀ q ∈ pre ++ post, F' q.1 = none ∧ H0 q.1 = none ∧ H' q.1 = some q.2 := fun q hq => by
    obtain ⟨h1, h2, h3⟩ := O2.own q (List.mem_append_right _ hq)
    refine ⟨?_, h2, hc _ _ (hdis q hq) h3⟩
    cases z : F' q.1 with
    | none => rfl
    | some u =>
      rcases c.new _ _ z with h | h
      · rw [h1] at h; cases h
      · rw [cutL_out (hdis q hq), h3] at h; cases h
  refine ⟨O.f0.trans c.f0, c.fh, fun b u e => hc b u (fun hb => by rw [hin b hb] at e; cases e) (O.hh b u e), fun b u h => ?_, fun q hq => ?_, ?_, O.cs.mono c.f0⟩
  · rcases c.new b u h with h | h
    · exact O.new b u h
    · by_cases hb : b ∈ L1.map Prod.fst
      · exact .inr (hin b hb)
      · rw [cutL_out hb] at h
        exact .inr (O.hh.free h)
  · rcases List.mem_append.mp hq with hq | hq
    · obtain ⟨h1, h2, h3⟩ := c.own q hq
      refine ⟨h1, ?_, h3⟩
      by_cases hb : q.1 ∈ L1.map Prod.fst
      · exact hin _ hb
      · rw [cutL_out hb] at h2
        exact O.hh.free h2
    · exact rest q hq
  · rw [List.map_append, List.nodup_append]
    refine ⟨c.nd, ?_, ?_⟩
    · have := O2.nd
      rw [List.map_append, List.nodup_append] at this
      exact this.2.1
    · intro a ha b hb e
      subst e
      obtain ⟨q, hq, rfl⟩ := List.mem_map.mp ha
      obtain ⟨q', hq', e⟩ := List.mem_map.mp hb
      obtain ⟨_, h2, _⟩ := c.own q hq
      have h3 := (O2.own q' (List.mem_append_right _ hq')).2.2
      have hn := hdis q' hq'
      rw [e] at h3 hn
      rw [cutL_out hn, h3] at h2
      cases h2
/-- called with an own object and such arguments, it changes the object and hands back what the mirror tells -/
def spZ (A : Ar α) (S : Sl τ) (S' : Sl τ') (sr : Sl δ) (m : τ → α → Option (τ' × δ)) : Sp := fun vs H Q _ => ∃ F v ws L x γ y b, vs = v :: ws ∧ Same F (cutL H L) ∧ (∀ q ∈ L, F q.1 = none ∧ H q.1 = some q.2) ∧ (L.map Prod.fst).Nodup ∧ S.r v F L x ∧ A.r F ws γ ∧ m x γ = some (y, b) ∧
  ∀ v' F' H' L' Lr, Own F (cutL H L) F' H' (L' ++ Lr) [] → S'.r v F' L' y → sr.r v' F' Lr b → Q v' H'
/-- C(..) -/
theorem se_make {T : Fd τ'} {fs : ρ → Option α} {m : Unit → α → Option (τ' × Unit)} {Ex : XK} (hs : SA tA E A fs) :
    SE (tMake C (spZ A (sI C fdN) (sI C T) (sF jN) m) [] Ex tA) E (sI C T) (fun γ => ob (fs γ) fun y => ob (m () y) fun z => some z.1) := ⟨fun s0 hL hE e k => by
  obtain ⟨y, e1, e⟩ := ob_some e
  obtain ⟨⟨z, w⟩, e2, e⟩ := ob_some e
  cases e
  refine hs s0 hL hE e1 fun vs F1 H1 s1 r1 => fun x dx nx ndx hne => ?_
  have ecut : cutL (upd (upd H1 dx (.own x)) x (.ins C dx [])) [(x, .ins C dx []), (dx, .own x)] = H1 := by
    funext b
    by_cases hb : b ∈ [(x, HO.ins C dx []), (dx, HO.own x)].map Prod.fst
    · rw [cutL_in hb]
      simp only [List.map_cons, List.map_nil, List.mem_cons, List.not_mem_nil, or_false] at hb
      rcases hb with hb | hb
      · rw [hb, nx]
      · rw [hb, ndx]
    · rw [cutL_out hb]
      simp only [List.map_cons, List.map_nil, List.mem_cons, List.not_mem_nil, or_false, not_or] at hb
      rw [upd_ne hb.1, upd_ne hb.2]
  refine ⟨F1, .ref x, vs, [(x, .ins C dx []), (dx, .own x)], (), y, z, w, by rw [List.append_nil], by rw [ecut]; exact s1.fh, fun q hq => ?_, ?_, ⟨x, dx, [], [], rfl, rfl, ⟨Nat.zero_le _, fun _ _ => rfl⟩, rfl⟩, r1, e2, fun v' F' H' L' Lr O r2 r3 => ?_⟩
  · simp only [List.mem_cons, List.not_mem_nil, or_false] at hq
    rcases hq with hq | hq
    · subst hq; exact ⟨s1.fh.free nx, upd_same⟩
    · subst hq; exact ⟨s1.fh.free ndx, by rw [upd_ne hne, upd_same]⟩
  · simp only [List.map_cons, List.map_nil, List.nodup_cons, List.mem_cons, List.not_mem_nil, or_false, not_false_eq_true, List.nodup_nil, and_true]
    exact fun z => hne z.symm
  · rw [ecut] at O
    obtain ⟨e3, e4⟩ := r3
    subst e3
    rw [List.append_nil] at O
    exact ⟨e4, k _ _ _ _ (s1.tr O) r2⟩⟩
/-- x = obj.m(..), which changes obj -/
theorem ss_asgZ {j : Nat} {m : Str} {T : Fd τ} {g : ρ → τ} {up : τ → ρ → ρ} {fs : ρ → Option α} {D : Rp δ} {p : δ → ρ → ρ''} {mm : τ → α → Option (τ × δ)} {m2 : ρ'' → Option (Res ρ' κ β)} {Ex : XK}
    (hx : Fy E i (sI C T) g E (sI C T) up) (hs : SA tA E A fs) (hm : m ∉ T.nm) (hp : Pt E j (sF D) E1 p) (hu : SS u E1 E' Ec s m2) :
    SS (tSeq (tAsg (tMeth C m (spZ A (sI C T) (sI C T) (sF D) mm) [] Ex (tVar i) tA) (gName j)) u) E E' Ec s (fun γ => ob (fs γ) fun a => ob (mm (g γ) a) fun z => m2 (p z.2 (up z.1 γ))) := ⟨fun {σ F0 H0 F H L γ r D} O hE e fin => by
  obtain ⟨a, e1, e⟩ := ob_some e
  obtain ⟨⟨y, b⟩, e2, e⟩ := ob_some e
  obtain ⟨v, pre, L1, post, h1, h2, h3, h4⟩ := hx.run hE
  obtain ⟨x, dx, fl, M, g1, g2, g3, g4⟩ := id h3
  subst g1
  have hxa : H x = some (.ins C dx fl) := (O.own (x, .ins C dx fl) (by rw [h2, g2]; simp)).2.2
  refine ⟨_, h1, x, dx, fl, rfl, hxa, g3.2 m hm, ?_⟩
  refine hs O.fh (Held.of O) hE e1 fun vs F1 H1 s1 r1 => ?_
  have O1 := Own.on O s1
  rw [List.nil_append, h2] at O1
  rw [List.append_nil]
  have O2 := O1.perm (L' := L1 ++ (pre ++ post)) (by rw [← List.append_assoc, ← List.append_assoc]; exact List.perm_append_comm.append_right post)
  have nd := O2.nd
  rw [List.map_append, List.nodup_append] at nd
  refine ⟨F1, .ref x, vs, L1, g γ, a, y, b, rfl, fun c o ec => ?_, fun q hq => ?_, nd.1, (sI C T).m s1.f0 h3, r1, e2, fun v' F' H' L' Lr c r2 ⟨r3, r4⟩ => ?_⟩
  · rw [cutL_out fun hm => ?_]
    · exact O1.fh c o ec
    · obtain ⟨q, hq, rfl⟩ := List.mem_map.mp hm
      rw [(O2.own q (List.mem_append_left _ hq)).1] at ec
      cases ec
  · have := O2.own q (List.mem_append_left _ hq)
    exact ⟨this.1, this.2.2⟩
  · subst r3
    rw [List.append_nil] at c
    have O3 := Own.lentL O1 c
    have hE2 := h4 F' L' y (s1.f0.trans c.f0) r2
    obtain ⟨L'', q1, q2⟩ := hp.run (L1 := []) (v := v') (x := b) hE2 ⟨rfl, r4⟩
    refine hu.run (OwnSb O3 (q2.trans (Sb.perm ?_))) q1 e (fin.mo (s1.f0.trans c.f0))
    rw [List.nil_append, ← List.append_assoc, ← List.append_assoc]
    exact (List.perm_append_comm).append_right post⟩
/-! ### setting fields -/
/-- self.f = e, a new field -/
theorem ss_fldN {s1 : Sl α} {T : Fd τ} {g : ρ → τ} {up : α × τ → ρ → ρ''} {fe : ρ → Option α} {m : ρ'' → Option (Res ρ' κ β)} (cl : Cls K C) (na : NoAttr K C f) (he : SE te E s1 fe) (hx : Fy E i (sIA pp C T) g E1 (sIA pp C (fdC f s1 T)) up) (hu : SS u E1 E' Ec s m) (hn : f ∉ T.nm := by decide) (hz : T.nm.length < 1000 := by decide) :
    SS (tSeq (sFld K (tVar i) te f) u) E E' Ec s (fun γ => ob (fe γ) fun y => m (up (y, g γ) γ)) := ⟨fun {σ F0 H0 F H L γ r D} O hE e fin => by
  obtain ⟨y, e1, e⟩ := ob_some e
  refine he O.fh (Held.of O) hE e1 fun v F1 H1 L1 st r1 => ?_
  have O1 := Own.on O st
  obtain ⟨w, pre, Lo, post, h1, h2, ⟨h3, dx, fs, M, h5, h6, h7⟩, h4⟩ := hx.run hE
  subst h3 h5 h2
  refine ⟨_, h1, pp, C, dx, fs, rfl, (O1.own (pp, .ins C dx fs) (by simp)).2.2, cl, na, Nat.lt_of_le_of_lt h6.1 hz, ?_⟩
  have O2 := Own.at1 (o' := .ins C dx (putF f v fs)) (post := (dx, HO.own pp) :: (M ++ post)) (by simpa using O1)
  refine hu.run (O2.perm (L' := pre ++ (((pp, .ins C dx (putF f v fs)) :: (dx, .own pp) :: (L1 ++ M)) ++ post)) ?_) (h4 F1 _ (y, g γ) st.f0 ⟨rfl, dx, putF f v fs, L1 ++ M, rfl, h6.new, v, L1, M, ?_, rfl, r1, ?_⟩) e (fin.mo st.f0)
  · have p1 : (pre ++ ((pp, HO.ins C dx (putF f v fs)) :: (dx, HO.own pp) :: (L1 ++ M)) ++ post).Perm (L1 ++ (pre ++ (pp, HO.ins C dx (putF f v fs)) :: (dx, HO.own pp) :: (M ++ post))) := by
      have e1 : pre ++ ((pp, HO.ins C dx (putF f v fs)) :: (dx, HO.own pp) :: (L1 ++ M)) ++ post = (pre ++ [(pp, HO.ins C dx (putF f v fs)), (dx, HO.own pp)]) ++ (L1 ++ (M ++ post)) := by simp
      have e2 : L1 ++ (pre ++ (pp, HO.ins C dx (putF f v fs)) :: (dx, HO.own pp) :: (M ++ post)) = L1 ++ ((pre ++ [(pp, HO.ins C dx (putF f v fs)), (dx, HO.own pp)]) ++ (M ++ post)) := by simp
      rw [e1, e2]
      exact pswap
    simpa using p1
  · rw [lookup_putF, if_pos rfl]
  · exact T.c (fun h hh => by rw [lookup_putF, if_neg (fun z : h = f => hn (z ▸ hh))]) (T.m st.f0 h7)⟩
/-- self.f = e, a field that is there -/
theorem ss_fldS {T : Fd τ} {g : ρ → τ} {gf : τ → α} {uf : α → τ → τ} {up : τ → ρ → ρ} {fe : ρ → Option α} {m : ρ → Option (Res ρ' κ β)} (cl : Cls K C) (na : NoAttr K C f) (he : SE te E (sF R) fe) (hx : Fy E i (sIA pp C T) g E (sIA pp C T) up) (hf : FX T f (sF R) gf uf) (hu : SS u E E' Ec s m) (hz : T.nm.length < 1000 := by decide) :
    SS (tSeq (sFld K (tVar i) te f) u) E E' Ec s (fun γ => ob (fe γ) fun y => m (up (uf y (g γ)) γ)) := ⟨fun {σ F0 H0 F H L γ r D} O hE e fin => by
  obtain ⟨y, e1, e⟩ := ob_some e
  refine he O.fh (Held.of O) hE e1 fun v F1 H1 L1 st ⟨z1, r1⟩ => ?_
  subst z1
  have O1 := Own.on O st
  rw [List.nil_append] at O1
  obtain ⟨w, pre, Lo, post, h1, h2, ⟨h3, dx, fs, M, h5, h6, h7⟩, h4⟩ := hx.run hE
  subst h3 h5 h2
  obtain ⟨v0, p2, L2, q2, k1, k2, ⟨k3, k4⟩, k5⟩ := hf.run h7
  subst k3 k2
  refine ⟨_, h1, pp, C, dx, fs, rfl, (O1.own (pp, .ins C dx fs) (by simp)).2.2, cl, na, Nat.lt_of_le_of_lt h6.1 hz, ?_⟩
  have O2 := Own.at1 (A := []) (o' := .ins C dx (putF f v fs)) (post := (dx, HO.own pp) :: (p2 ++ ([] ++ q2) ++ post)) (by simpa using O1)
  refine hu.run (by simpa using O2) (h4 F1 ((pp, .ins C dx (putF f v fs)) :: (dx, .own pp) :: (p2 ++ ([] ++ q2))) (uf y (g γ)) st.f0 ⟨rfl, dx, putF f v fs, _, rfl, h6.old k1, ?_⟩) e (fin.mo st.f0)
  exact k5 F1 (putF f v fs) v [] y st.f0 (by rw [lookup_putF, if_pos rfl]) (fun h hh => by rw [lookup_putF, if_neg hh]) ⟨rfl, r1⟩⟩
/-- self.f op= e -/
theorem ss_fldAug {h : Int → Int → Int} {T : Fd τ} {g : ρ → τ} {gf : τ → Int} {uf : Int → τ → τ} {up : τ → ρ → ρ} {fe : ρ → Option Int} {m : ρ → Option (Res ρ' κ β)} (cl : Cls K C) (na : NoAttr K C f) (he : SE te E (sF jI) fe) (hx : Fy E i (sIA pp C T) g E (sIA pp C T) up) (hf : FX T f (sF jI) gf uf) (hu : SS u E E' Ec s m) (hz : T.nm.length < 1000 := by decide) :
    SS (tSeq (sFldAug K (tVar i) te (rI0 fun i j => .int (h i j)) f) u) E E' Ec s (fun γ => ob (fe γ) fun y => m (up (uf (h (gf (g γ)) y) (g γ)) γ)) := ⟨fun {σ F0 H0 F H L γ r D} O hE e fin => by
  obtain ⟨y, e1, e⟩ := ob_some e
  obtain ⟨w, pre, Lo, post, h1, h2, ⟨h3, dx, fs, M, h5, h6, h7⟩, h4⟩ := hx.run hE
  subst h3 h5 h2
  obtain ⟨v0, p2, L2, q2, k1, k2, ⟨k3, k4⟩, k5⟩ := hf.run h7
  subst k3 k2
  have k4 : v0 = .int (gf (g γ)) := k4
  subst k4
  refine ⟨_, h1, pp, C, dx, fs, _, rfl, (O.own (pp, .ins C dx fs) (by simp)).2.2, cl, na, k1, ?_⟩
  refine he O.fh (Held.of O) hE e1 fun v F1 H1 L1 st ⟨z1, r1⟩ => ?_
  subst z1
  have r1 : v = .int y := r1
  subst r1
  have O1 := Own.on O st
  rw [List.nil_append] at O1
  refine ⟨_, _, rfl, rfl, dx, fs, (O1.own (pp, .ins C dx fs) (by simp)).2.2, Nat.lt_of_le_of_lt h6.1 hz, ?_⟩
  have O2 := Own.at1 (A := []) (o' := .ins C dx (putF f (.int (h (gf (g γ)) y)) fs)) (post := (dx, HO.own pp) :: (p2 ++ ([] ++ q2) ++ post)) (by simpa using O1)
  refine hu.run (by simpa using O2) (h4 F1 ((pp, .ins C dx (putF f (.int (h (gf (g γ)) y)) fs)) :: (dx, .own pp) :: (p2 ++ ([] ++ q2))) (uf (h (gf (g γ)) y) (g γ)) st.f0 ⟨rfl, dx, _, _, rfl, h6.old k1, ?_⟩) e (fin.mo st.f0)
  exact k5 F1 _ _ [] _ st.f0 (by rw [lookup_putF, if_pos rfl]) (fun h hh => by rw [lookup_putF, if_neg hh]) ⟨rfl, rfl⟩⟩
/-- self.f as a place -/
theorem pl_fld {s1 : Sl α} {T : Fd τ} {g : ρ → τ} {gf : τ → α} {uf : α → τ → τ} {up : τ → ρ → ρ} (cl : Cls K C) (na : NoAttr K C f) (hx : Fy E i (sIA pp C T) g E (sIA pp C T) up) (hf : FX T f s1 gf uf) :
    SPl (tFld K (tVar i) f) E s1 (fun γ => some (gf (g γ))) (fun γ y => some (uf y (g γ))) up := ⟨fun {σ F H L γ y Q} s0 hL hE e k => by
  cases e
  obtain ⟨w, pre, Lo, post, h1, h2, ⟨h3, dx, fs, M, h5, h6, h7⟩, h4⟩ := hx.run hE
  subst h3 h5 h2
  obtain ⟨v0, p2, L2, q2, k1, k2, k3, k5⟩ := hf.run h7
  subst k2
  refine ⟨_, h1, pp, C, dx, fs, v0, rfl, hL (pp, .ins C dx fs) (by simp), cl, na, k1, k v0 F H (Step.nil s0) ⟨pre ++ (pp, .ins C dx fs) :: (dx, .own pp) :: p2, L2, q2 ++ post, by simp, k3, fun F2 L3 y2 γ2 z r e => ?_⟩⟩
  cases e
  have := h4 F2 ((pp, .ins C dx fs) :: (dx, .own pp) :: (p2 ++ (L3 ++ q2))) (uf y2 (g γ)) z ⟨rfl, dx, fs, _, rfl, h6, k5 F2 fs v0 L3 y2 z k1 (fun _ _ => rfl) r⟩
  simpa using this⟩
/-! ### defs that change their object -/
def rZ (pp : Addr) (S : Sl τ) (sr : Sl δ) : RRt (τ × δ) := ⟨fun F0 H0 Fs Q b => ∀ v F H L Lr, Same Fs F → Own F0 H0 F H (L ++ Lr) [] → S.r (.ref pp) F L b.1 → sr.r v F Lr b.2 → Q v H, fun h sF v F H L Lr s2 => h v F H L Lr (sF.trans s2)⟩
theorem ss_retZ {T : Fd τ} {g : ρ → τ} {up : τ → ρ → ρ} {D : Rp δ} {fe : ρ → Option δ} (he : SE te E (sF D) fe) (hx : Fy E i (sIA pp C T) g E (sIA pp C T) up) : SS (tRet te) E E' Ec (rZ pp (sIA pp C T) (sF D)) (fun γ => ob (fe γ) fun b => some (.ret (g γ, b))) := ⟨fun {σ F0 H0 F H L γ r D} O hE e fin => by
  obtain ⟨b, e1, e⟩ := ob_some e
  cases e
  refine he O.fh (Held.of O) hE e1 fun v F1 H1 L1 st ⟨z1, r1⟩ => ?_
  subst z1
  have O1 := Own.on O st
  rw [List.nil_append] at O1
  obtain ⟨w, pre, Lo, post, h1, h2, h3, h4⟩ := hx.run hE
  have e3 := h3.1
  subst e3 h2
  refine fin v F1 H1 Lo [] st.f0 (OwnSb O1 ?_) ((sIA pp C T).m st.f0 h3) ⟨rfl, r1⟩
  rw [List.append_nil]
  exact (Sb.dropR Lo post).trans (Sb.dropL pre (Lo ++ post))⟩
/-- of a body that hands back a value -/
def finZ (x : Option (Res ρ κ (τ × δ))) : Option (τ × δ) := fin x
theorem finZ_runX {T : Fd τ} {T2 : Fd τ'} {a : Ar α} {n k : Nat} {N : List Str} {E0 : Addr → En (τ × ρ)} {sr : Sl δ} {t : TS} {mm : τ → α → Option (τ' × δ)} {vs : List V} {H : Hp} {Q : VK} {Ex : XK} {D : Ends} {j : α → ρ} {E1 : En ρ'}
    (hE : ∀ pp {F vs L x γ}, a.r F vs γ → (sIA pp C T).r (.ref pp) F L x → (E0 pp).r (some (.ref pp) :: (vs.map some ++ List.replicate n none)) F L (x, j γ)) (hn : AN a k) (hN : N.length = k + 1 + n)
    (h : ∀ pp, ∃ m : τ × ρ → Option (Res ρ' Unit (τ' × δ)), SS t (E0 pp) E1 eN (rZ pp (sIA pp C T2) sr) m ∧ mm = fun x γ => finZ (m (x, j γ))) (q : spZ a (sI C T) (sI C T2) sr mm vs H Q Ex) (hD : D.rt = Q) : t D (L2.start N vs) H := by
  obtain ⟨F, v, ws, L, x, γ, y, b, e0, s0, h1, nd, r1, r2, e, k2⟩ := q
  subst e0
  obtain ⟨pp, dx, fs, M, g1, g2, g3, g4⟩ := r1
  subst g1
  obtain ⟨m, hs, hm⟩ := h pp
  subst hm
  obtain ⟨r, e1, e2⟩ := ob_some e
  have hl := hn.run r2
  have hs2 : L2.start N (.ref pp :: ws) = some (.ref pp) :: (ws.map some ++ List.replicate n none) := by
    unfold L2.start
    rw [List.map_cons, List.cons_append, show N.length - (V.ref pp :: ws).length = n by rw [List.length_cons]; omega]
  rw [hs2]
  refine hs.run (Own.lendL s0 h1 nd) (hE pp r2 ⟨rfl, dx, fs, M, g2, g3, g4⟩) e1 ?_
  cases r with
  | ret b' =>
    cases e2
    intro v' F' H' L' Lr _ O r3 r4
    rw [hD]
    exact k2 v' F' H' L' Lr O (sIA_sI r3) r4
  | nxt _ => cases e2
  | cnt _ => cases e2
  | brk _ => cases e2
/-- of a body that hands back None -/
def finZN (g : ρ → τ) (x : Option (Res ρ κ β)) : Option (τ × Unit) := ob x fun r => match r with | .nxt γ => some (g γ, ()) | _ => none
theorem finZN_runX {T : Fd τ} {T2 : Fd τ'} {a : Ar α} {n k i : Nat} {N : List Str} {E0 : Addr → En (τ × ρ)} {t : TS} {mm : τ → α → Option (τ' × Unit)} {vs : List V} {H : Hp} {Q : VK} {Ex : XK} {D : Ends} {j : α → ρ} {E1 : Addr → En ρ'} {g : ρ' → τ'} {up : τ' → ρ' → ρ'}
    (hE : ∀ pp {F vs L x γ}, a.r F vs γ → (sIA pp C T).r (.ref pp) F L x → (E0 pp).r (some (.ref pp) :: (vs.map some ++ List.replicate n none)) F L (x, j γ)) (hn : AN a k) (hN : N.length = k + 1 + n)
    (hx : ∀ pp, Fy (E1 pp) i (sIA pp C T2) g (E1 pp) (sIA pp C T2) up)
    (h : ∀ pp, ∃ m : τ × ρ → Option (Res ρ' Unit (τ' × Unit)), SS t (E0 pp) (E1 pp) eN (rZ pp (sIA pp C T2) (sF jN)) m ∧ mm = fun x γ => finZN g (m (x, j γ))) (q : spZ a (sI C T) (sI C T2) (sF jN) mm vs H Q Ex) (hD2 : D.nx = fun _ H' => Q .non H') : t D (L2.start N vs) H := by
  obtain ⟨F, v, ws, L, x, γ, y, b, e0, s0, h1, nd, r1, r2, e, k2⟩ := q
  subst e0
  obtain ⟨pp, dx, fs, M, g1, g2, g3, g4⟩ := r1
  subst g1
  obtain ⟨m, hs, hm⟩ := h pp
  subst hm
  obtain ⟨r, e1, e2⟩ := ob_some e
  have hl := hn.run r2
  have hs2 : L2.start N (.ref pp :: ws) = some (.ref pp) :: (ws.map some ++ List.replicate n none) := by
    unfold L2.start
    rw [List.map_cons, List.cons_append, show N.length - (V.ref pp :: ws).length = n by rw [List.length_cons]; omega]
  rw [hs2]
  refine hs.run (Own.lendL s0 h1 nd) (hE pp r2 ⟨rfl, dx, fs, M, g2, g3, g4⟩) e1 ?_
  cases r with
  | nxt γ' =>
    cases e2
    intro σ F' H' L' _ O hE'
    rw [hD2]
    obtain ⟨w, pre, Lo, post, h5, h6, h7, _⟩ := (hx pp).run hE'
    have e3 := h7.1
    subst e3 h6
    refine k2 .non F' H' Lo [] (OwnSb O ?_) (sIA_sI h7) ⟨rfl, rfl⟩
    rw [List.append_nil]
    exact (Sb.dropR Lo post).trans (Sb.dropL pre (Lo ++ post))
  | ret _ => cases e2
  | cnt _ => cases e2
  | brk _ => cases e2
theorem aze {T : Fd τ} {a : Ar ρ} {E : En ρ} {n : Nat} (h : AE a E n) : ∀ pp {F : Hp} {vs : List V} {L : List (Addr × HO)} {x : τ} {γ : ρ}, a.r F vs γ → (sIA pp C T).r (.ref pp) F L x → (eC (sIA pp C T) E).r (some (.ref pp) :: (vs.map some ++ List.replicate n none)) F L (x, γ) := fun pp {F vs L x γ} r1 r2 =>
  ⟨_, _, L, [], rfl, by rw [List.append_nil], r2, h.run r1⟩
theorem spZ_len {a : Ar α} {S : Sl τ} {S' : Sl τ'} {sr : Sl δ} {m : τ → α → Option (τ' × δ)} {n : Nat} (h : AN a n) : ∀ vs H Q E, spZ a S S' sr m vs H Q E → vs.length = n + 1 := fun _ _ _ _ ⟨_, _, _, _, _, _, _, _, e, _, _, _, _, r, _⟩ => by rw [e, List.length_cons, h.run r]
/-! what it tells -/
def RfZ (Q : τ × Unit → Prop) (g : ρ → τ) : Res ρ κ β → Prop
  | .nxt γ => Q (g γ, ())
  | _ => False
theorem RfZ_nxt {Q : τ × Unit → Prop} {g : ρ → τ} {γ : ρ} : RfZ (κ := κ) (β := β) Q g (.nxt γ) = Q (g γ, ()) := rfl
theorem W_finZ {x : Option (Res ρ κ (τ × δ))} {Q : τ × δ → Prop} : W (finZ x) Q = W x (Rf Q) := W_fin
theorem W_finZN {g : ρ → τ} {x : Option (Res ρ κ β)} {Q : τ × Unit → Prop} : W (finZN g x) Q = W x (RfZ Q g) := by
  unfold finZN
  rw [W_ob]
  congr 1
  funext r
  cases r with
  | nxt γ => exact W_some
  | ret b => exact W_none
  | cnt γ => exact W_none
  | brk γ => exact W_none
end
end Mi

namespace Mi
open PySem PySem.Spec PyProof.Rows L2 Fw
/-! ### dicts of ints or texts -/
structure Ky (κ : Type) [DecidableEq κ] where
  e : κ → Key
  R : Rp κ
  i : ∀ {a b : κ}, e a = e b → a = b
  v : ∀ {F : Hp} {v : V} {k : κ}, R.r F v k → v = kV (e k)
def kyI : Ky Int := ⟨Sum.inl, jI, fun h => Sum.inl.inj h, fun h => h⟩
def kyS : Ky (List Nat) := ⟨fun l => Sum.inr (S l), jS, fun h => S_inj.mp (Sum.inr.inj h), fun h => h.1⟩
section
variable {ky : Type} [DecidableEq ky] {τ : Type}
def mget (d : List (ky × τ)) (k : ky) : Option τ := (d.find? fun q => decide (q.1 = k)).map (·.2)
def mput (d : List (ky × τ)) (k : ky) (x : τ) : List (ky × τ) := if (d.any fun q => decide (q.1 = k)) = true then d.map (fun q => if q.1 = k then (q.1, x) else q) else d ++ [(k, x)]
def dR (Y : Ky ky) (A : Rp τ) (F : Hp) (kv : Key × V) (x : ky × τ) : Prop := kv.1 = Y.e x.1 ∧ A.r F kv.2 x.2
theorem dR.m {Y : Ky ky} {A : Rp τ} {F F' : Hp} (s : Same F F') {kvs : List (Key × V)} {d : List (ky × τ)} (h : Paired (dR Y A F) kvs d) : Paired (dR Y A F') kvs d := Paired.mono (fun _ _ q => ⟨q.1, A.m s q.2⟩) h
def sM (Y : Ky ky) (A : Rp τ) : Sl (List (ky × τ)) := ⟨fun v F L d => ∃ p kvs, v = .ref p ∧ L = [(p, .dK kvs)] ∧ Paired (dR Y A F) kvs d, fun s ⟨p, kvs, e, h, q⟩ => ⟨p, kvs, e, h, dR.m s q⟩⟩
def jM (Y : Ky ky) (A : Rp τ) : Rp (List (ky × τ)) := ⟨fun F v d => ∃ p kvs, v = .ref p ∧ F p = some (.dK kvs) ∧ Paired (dR Y A F) kvs d, fun s ⟨p, kvs, e, h, q⟩ => ⟨p, kvs, e, s _ _ h, dR.m s q⟩⟩
theorem mget_rel {Y : Ky ky} {A : Rp τ} {F : Hp} {k : ky} : ∀ {kvs : List (Key × V)} {d : List (ky × τ)}, Paired (dR Y A F) kvs d →
    (∀ x, mget d k = some x → ∃ v, valV kvs (Y.e k) = some v ∧ A.r F v x) ∧ (mget d k = none → valV kvs (Y.e k) = none)
  | [], [], .nil => ⟨fun _ e => (nomatch e), fun _ => rfl⟩
  | kv :: kvs, q :: d, .cons h t => by
    obtain ⟨i1, i2⟩ := mget_rel (k := k) t
    by_cases e : q.1 = k
    · have e1 : mget (q :: d) k = some q.2 := by simp [mget, List.find?_cons, e]
      have e2 : valV (kv :: kvs) (Y.e k) = some kv.2 := valV_pos (by rw [h.1, e])
      refine ⟨fun x hx => ?_, fun hx => by rw [e1] at hx; cases hx⟩
      rw [e1] at hx
      cases hx
      exact ⟨_, e2, h.2⟩
    · have e1 : mget (q :: d) k = mget d k := by simp [mget, List.find?_cons, e]
      have e2 : valV (kv :: kvs) (Y.e k) = valV kvs (Y.e k) := valV_neg (by rw [h.1]; exact fun z => e (Y.i z))
      rw [e1, e2]
      exact ⟨i1, i2⟩
theorem any_rel {Y : Ky ky} {A : Rp τ} {F : Hp} {k : ky} : ∀ {kvs : List (Key × V)} {d : List (ky × τ)}, Paired (dR Y A F) kvs d → (kvs.any fun kv => decide (kv.1 = Y.e k)) = (d.any fun q => decide (q.1 = k))
  | [], [], .nil => rfl
  | kv :: kvs, q :: d, .cons h t => by
    rw [List.any_cons, List.any_cons, any_rel t]
    congr 1
    rw [h.1]
    exact decide_eq_decide.mpr ⟨fun z => Y.i z, fun z => by rw [z]⟩
theorem mput_rel {Y : Ky ky} {A : Rp τ} {F : Hp} {k : ky} {v : V} {x : τ} (r : A.r F v x) {kvs : List (Key × V)} {d : List (ky × τ)} (h : Paired (dR Y A F) kvs d) : Paired (dR Y A F) (putK kvs (Y.e k) v) (mput d k x) := by
  have key : ∀ {kvs : List (Key × V)} {d : List (ky × τ)}, Paired (dR Y A F) kvs d → Paired (dR Y A F) (kvs.map fun kv => if kv.1 = Y.e k then (kv.1, v) else kv) (d.map fun q => if q.1 = k then (q.1, x) else q) := by
    intro kvs d h
    induction h with
    | nil => exact .nil
    | @cons kv q _ _ h t ih =>
      refine .cons ?_ ih
      show dR Y A F (if kv.1 = Y.e k then (kv.1, v) else kv) (if q.1 = k then (q.1, x) else q)
      by_cases e : q.1 = k
      · have e2 : kv.1 = Y.e k := by rw [h.1, e]
        rw [if_pos e2, if_pos e]
        exact ⟨h.1, r⟩
      · have e2 : ¬ kv.1 = Y.e k := by rw [h.1]; exact fun z => e (Y.i z)
        rw [if_neg e2, if_neg e]
        exact h
  unfold putK mput
  rw [any_rel h]
  split
  · exact key h
  · exact Paired.app h (.cons ⟨rfl, r⟩ .nil)
theorem fzM {Y : Ky ky} {A : Rp τ} : Fz (sM Y A) (jM Y A) := ⟨fun {_ _ F _ _ _ _ _} O ⟨p, kvs, e1, e2, q⟩ => by
  subst e1 e2
  have O1 := ((show Own _ _ _ _ ((p, HO.dK kvs) :: _) [] from O).freeze).chunks (C' := []) trivial
  have s1 : Same F (upd F p (.dK kvs)) := fun b u e => by rw [upd_ne (ne_of_none e ((O.own (p, .dK kvs) List.mem_cons_self)).1)]; exact e
  exact ⟨_, s1, O1, p, kvs, rfl, upd_same, dR.m s1 q⟩⟩
end
section
variable {ky : Type} [DecidableEq ky] {α β δ τ ρ ρ' ρ'' κ : Type} {E : En ρ} {E' : En ρ'} {E1 : En ρ''} {Ec : En κ} {ta td ty tx te : TE} {A : Rp τ} {Y : Ky ky} {K : PySem.W.Frag} {s : RRt β} {u : TS} {i : Nat} {fd : ρ → Option (List (ky × τ))} {fk : ρ → Option ky} {fx : ρ → Option τ}
theorem se_dnew : SE tDNewK E (sM Y A) (fun _ => some []) := ⟨fun s0 hL hE e k => by
  cases e
  exact fun p np => k _ _ _ _ ((Step.nil s0).alloc np (.dK [])) ⟨p, [], rfl, rfl, .nil⟩⟩
theorem sr_dvar {g : ρ → List (ky × τ)} (hg : Gt E i (sM Y A) g) : SR (tVar i) E (jM Y A) (fun γ => some (g γ)) := ⟨fun s0 hL hE e k => by
  cases e
  obtain ⟨v, L1, h1, h2, p, kvs, h3, h4, h5⟩ := hg hE
  subst h3 h4
  exact ⟨_, h1, k _ _ _ (Step.nil s0) ⟨p, kvs, rfl, hL _ (h2 _ List.mem_cons_self), dR.m s0 h5⟩⟩⟩
theorem se_dget (hd : SR td E (jM Y A) fd) (hk : SE ty E (sF Y.R) fk) (sc : Scal A) : SE (tDGet td ty) E (sF A) (fun γ => ob (fd γ) fun d => ob (fk γ) fun k => mget d k) := ⟨fun s0 hL hE e k => by
  obtain ⟨d, e1, e⟩ := ob_some e
  obtain ⟨y, e2, e⟩ := ob_some e
  refine hd.run s0 hL hE e1 fun v F1 H1 s1 ⟨p, kvs, h1, h2, h3⟩ => ?_
  subst h1
  refine hk s1.fh (hL.mono s1.hh) (E.m s1.f0 hE) e2 fun w F2 H2 L2 s2 ⟨z2, r2⟩ => ?_
  subst z2
  obtain ⟨x, q1, q2⟩ := (mget_rel (dR.m s2.hh h3)).1 _ e
  refine ⟨p, x, rfl, ?_, k x F2 H2 [] (s1.tr s2) ⟨rfl, sc.run q2⟩⟩
  rw [Y.v r2, ← q1]
  exact DGet.k (s2.hh _ _ h2)⟩
theorem se_dget2 (hd : SR td E (jM Y A) fd) (hk : SE ty E (sF Y.R) fk) (hx : SE tx E (sF A) fx) (sc : Scal A) : SE (tDGet2 td ty tx) E (sF A) (fun γ => ob (fd γ) fun d => ob (fk γ) fun k => ob (fx γ) fun x => some ((mget d k).getD x)) := ⟨fun s0 hL hE e k => by
  obtain ⟨d, e1, e⟩ := ob_some e
  obtain ⟨y, e2, e⟩ := ob_some e
  obtain ⟨x, e3, e⟩ := ob_some e
  cases e
  refine hd.run s0 hL hE e1 fun v F1 H1 s1 ⟨p, kvs, h1, h2, h3⟩ => ?_
  subst h1
  refine ⟨p, rfl, .inl ⟨kvs, .inl h2⟩, ?_⟩
  refine hk s1.fh (hL.mono s1.hh) (E.m s1.f0 hE) e2 fun w F2 H2 L2 s2 ⟨z2, r2⟩ => ?_
  subst z2
  have s12 := s1.tr s2
  refine hx s2.fh (hL.mono s12.hh) (E.m s12.f0 hE) e3 fun w3 F3 H3 L3 s3 ⟨z3, r3⟩ => ?_
  subst z3
  have h4 := s3.hh _ _ (s2.hh _ _ h2)
  have h5 := dR.m (s2.hh.trans s3.hh) h3
  rw [Y.v r2]
  refine ⟨_, DGet.k h4, k _ F3 H3 [] (s12.tr s3) ⟨rfl, ?_⟩⟩
  cases q : mget d y with
  | none =>
    rw [(mget_rel h5).2 q]
    exact r3
  | some x' =>
    obtain ⟨v', q1, q2⟩ := (mget_rel h5).1 _ q
    rw [q1]
    exact sc.run q2⟩
theorem din_run {Q : VK} {σ : L2.St} {F H : Hp} {L : List (Addr × HO)} {γ : ρ} {y : ky} {d : List (ky × τ)} (hd : SR td E (jM Y A) fd) (hk : SE ty E (sF Y.R) fk) (s0 : Same F H) (hL : Held H L) (hE : E.r σ F L γ) (e1 : fk γ = some y) (e2 : fd γ = some d)
    (k : ∀ p o H2 F2, Step F H F2 H2 [] → DGet H2 p (kV (Y.e y)) o → o.isSome = (mget d y).isSome → Q (.ref p) H2) : ty σ H fun w H1 => td σ H1 fun x H2 => w = kV (Y.e y) ∧ Q x H2 := by
  refine hk s0 hL hE e1 fun w F1 H1 L1 s1 ⟨z1, r1⟩ => ?_
  subst z1
  refine hd.run s1.fh (hL.mono s1.hh) (E.m s1.f0 hE) e2 fun v F2 H2 s2 ⟨p, kvs, h1, h2, h3⟩ => ?_
  subst h1
  refine ⟨Y.v r1, k p _ H2 F2 (s1.tr s2) (DGet.k h2) ?_⟩
  cases q : mget d y with
  | none => rw [(mget_rel h3).2 q]; rfl
  | some x' =>
    obtain ⟨v', q1, _⟩ := (mget_rel h3).1 _ q
    rw [q1]; rfl
theorem se_din (hk : SE ty E (sF Y.R) fk) (hd : SR td E (jM Y A) fd) : SE (tDIn ty td) E (sF jB) (fun γ => ob (fk γ) fun k => ob (fd γ) fun d => some (mget d k).isSome) := ⟨fun s0 hL hE e k => by
  obtain ⟨y, e1, e⟩ := ob_some e
  obtain ⟨d, e2, e⟩ := ob_some e
  cases e
  refine hk s0 hL hE e1 fun w F1 H1 L1 s1 ⟨z1, r1⟩ => ?_
  subst z1
  refine hd.run s1.fh (hL.mono s1.hh) (E.m s1.f0 hE) e2 fun v F2 H2 s2 ⟨p, kvs, h1, h2, h3⟩ => ?_
  subst h1
  rw [Y.v r1]
  have e3 : (valV kvs (Y.e y)).isSome = (mget d y).isSome := by
    cases q : mget d y with
    | none => rw [(mget_rel h3).2 q]; rfl
    | some x' =>
      obtain ⟨v', q1, _⟩ := (mget_rel h3).1 _ q
      rw [q1]; rfl
  exact ⟨p, _, rfl, DGet.k h2, k _ F2 H2 [] (s1.tr s2) ⟨rfl, by rw [e3]; rfl⟩⟩⟩
theorem se_dnotin (hk : SE ty E (sF Y.R) fk) (hd : SR td E (jM Y A) fd) : SE (tDNotIn ty td) E (sF jB) (fun γ => ob (fk γ) fun k => ob (fd γ) fun d => some (!(mget d k).isSome)) := ⟨fun s0 hL hE e k => by
  obtain ⟨y, e1, e⟩ := ob_some e
  obtain ⟨d, e2, e⟩ := ob_some e
  cases e
  refine hk s0 hL hE e1 fun w F1 H1 L1 s1 ⟨z1, r1⟩ => ?_
  subst z1
  refine hd.run s1.fh (hL.mono s1.hh) (E.m s1.f0 hE) e2 fun v F2 H2 s2 ⟨p, kvs, h1, h2, h3⟩ => ?_
  subst h1
  rw [Y.v r1]
  have e3 : (valV kvs (Y.e y)).isSome = (mget d y).isSome := by
    cases q : mget d y with
    | none => rw [(mget_rel h3).2 q]; rfl
    | some x' =>
      obtain ⟨v', q1, _⟩ := (mget_rel h3).1 _ q
      rw [q1]; rfl
  exact ⟨p, _, rfl, DGet.k h2, k _ F2 H2 [] (s1.tr s2) ⟨rfl, by rw [e3]; rfl⟩⟩⟩
theorem sc_lenD : SC (fun xs H Q => ∃ a kvs, xs = [V.ref a] ∧ H a = some (.dK kvs) ∧ Q (.int kvs.length) H) (aC (jM Y A) aN) (sF jI) (fun x => some (x.1.length : Int)) := sc_val fun {_ _ _ a _} s0 ⟨v, r, e1, ⟨p, kvs, e3, h, q⟩, e2⟩ k => by
  subst e1 e2 e3
  refine ⟨p, kvs, rfl, s0 _ _ h, ?_⟩
  rw [Paired.len q]
  exact k _ rfl
/-- d[k] = x -/
theorem ss_dput {g : ρ → List (ky × τ)} {up : List (ky × τ) → ρ → ρ} {m : ρ → Option (Res ρ' κ β)} (hx : Fx E i (sM Y A) g up) (hk : SE ty E (sF Y.R) fk) (hv : SE tx E (sF A) fx) (hu : SS u E E' Ec s m) :
    SS (tSeq (sDPut (tVar i) ty tx) u) E E' Ec s (fun γ => ob (fx γ) fun x => ob (fk γ) fun k => ob (pck ((g γ).length < sz) (mput (g γ) k x)) fun d => m (up d γ)) := ⟨fun {σ F0 H0 F H L γ r D} O hE e fin => by
  obtain ⟨x, e1, e⟩ := ob_some e
  obtain ⟨y, e2, e⟩ := ob_some e
  obtain ⟨d, e3, e⟩ := ob_some e
  obtain ⟨pz, rfl⟩ := pck_some e3
  refine hv O.fh (Held.of O) hE e1 fun v F1 H1 L1 s1 ⟨z1, r1⟩ => ?_
  subst z1
  have O1 := Own.on O s1
  rw [List.nil_append] at O1
  obtain ⟨w, pre, Lo, post, h1, h2, ⟨p, kvs, h3, h5, h6⟩, h4⟩ := hx.run hE
  subst h3 h5 h2
  refine ⟨_, h1, ?_⟩
  refine hk O1.fh (Held.of O1) (E.m s1.f0 hE) e2 fun w2 F2 H2 L2 s2 ⟨z2, r2⟩ => ?_
  subst z2
  have O2 := Own.on O1 s2
  rw [List.nil_append] at O2
  have hp : H2 p = some (.dK kvs) := (O2.own (p, .dK kvs) (by simp)).2.2
  rw [Y.v r2]
  refine ⟨p, _, rfl, DPut.k hp (sz_lt (by rw [Paired.len h6]; exact pz)), ?_⟩
  have O3 := Own.at1 (A := []) (o' := .dK (putK kvs (Y.e y) v)) (post := post) (by simpa using O2)
  refine hu.run (by simpa using O3) (h4 F2 [(p, .dK (putK kvs (Y.e y) v))] _ (s1.f0.trans s2.f0) ⟨p, _, rfl, rfl, mput_rel (A.m s2.f0 r1) (dR.m (s1.f0.trans s2.f0) h6)⟩) e (fin.mo (s1.f0.trans s2.f0))⟩
/-- return x, an own thing -/
theorem ss_retK {s1 : Sl β} {g : ρ → β} {up : β → ρ → ρ} (hx : Fx E i s1 g up) : SS (tRet (tVar i)) E E' Ec (rS s1) (fun γ => some (.ret (g γ))) := ⟨fun {_ _ _ F H L _ _ _} O hE e fin => by
  cases e
  obtain ⟨v, pre, L1, post, h1, h2, h3, _⟩ := hx.run hE
  subst h2
  refine ⟨v, h1, fin v F H L1 (Same.refl _) (OwnSb O ?_) h3⟩
  exact (Sb.dropR L1 post).trans (Sb.dropL pre (L1 ++ post))⟩
end
end Mi

namespace Mi
open PySem PySem.Spec PyProof.Rows L2 Fw
/-! ### plain lemmas: dicts, shifts, columns -/
section
variable {ky τ : Type} [DecidableEq ky]
theorem mget_nil (k : ky) : mget ([] : List (ky × τ)) k = none := rfl
theorem mget_cons (q : ky × τ) (d : List (ky × τ)) (k : ky) : mget (q :: d) k = if q.1 = k then some q.2 else mget d k := by
  unfold mget
  rw [List.find?_cons]
  by_cases h : q.1 = k
  · rw [if_pos h, decide_eq_true h]
    rfl
  · rw [if_neg h, decide_eq_false h]
theorem mget_app (d : List (ky × τ)) (q : ky × τ) (k : ky) : mget (d ++ [q]) k = match mget d k with | some x => some x | none => if q.1 = k then some q.2 else none := by
  induction d with
  | nil => rw [List.nil_append, mget_cons, mget_nil]
  | cons a d ih =>
    rw [List.cons_append, mget_cons, mget_cons]
    by_cases h : a.1 = k
    · rw [if_pos h, if_pos h]
    · rw [if_neg h, if_neg h, ih]
theorem mget_any (d : List (ky × τ)) (k : ky) : (d.any fun q => decide (q.1 = k)) = (mget d k).isSome := by
  induction d with
  | nil => rfl
  | cons a d ih =>
    rw [List.any_cons, mget_cons, ih]
    by_cases h : a.1 = k
    · rw [if_pos h, decide_eq_true h]; rfl
    · rw [if_neg h, decide_eq_false h]; rfl
theorem mget_mput (d : List (ky × τ)) (k k' : ky) (x : τ) : mget (mput d k x) k' = if k' = k then some x else mget d k' := by
  unfold mput
  rw [mget_any]
  by_cases h : (mget d k).isSome = true
  · rw [if_pos h]
    have key : ∀ d : List (ky × τ), mget (d.map fun q => if q.1 = k then (q.1, x) else q) k' = if k' = k then (mget d k).map fun _ => x else mget d k' := by
      intro d
      induction d with
      | nil => rw [List.map_nil, mget_nil, mget_nil]; split <;> rfl
      | cons a d ih =>
        rw [List.map_cons, mget_cons, ih, mget_cons, mget_cons]
        by_cases ha : a.1 = k
        · rw [if_pos ha]
          by_cases hk : k' = k
          · rw [if_pos hk, if_pos hk, if_pos (show a.1 = k' by rw [hk]; exact ha), if_pos ha]; rfl
          · rw [if_neg hk, if_neg hk, if_neg (show ¬ a.1 = k' from fun z => hk (z.symm.trans ha)), if_neg (show ¬ a.1 = k' from fun z => hk (z.symm.trans ha))]
        · rw [if_neg ha, if_neg ha]
          by_cases hk : k' = k
          · rw [if_pos hk, if_pos hk, if_neg (show ¬ a.1 = k' by rw [hk]; exact ha)]
          · rw [if_neg hk, if_neg hk]
    rw [key]
    by_cases hk : k' = k
    · rw [if_pos hk, if_pos hk]
      cases e : mget d k with
      | none => rw [e] at h; cases h
      | some y => rfl
    · rw [if_neg hk, if_neg hk]
  · rw [if_neg h, mget_app]
    by_cases hk : k' = k
    · rw [if_pos hk, hk]
      cases e : mget d k with
      | none => dsimp only; rw [if_pos rfl]
      | some y => rw [e] at h; exact absurd rfl h
    · rw [if_neg hk]
      cases e : mget d k' with
      | none => dsimp only; rw [if_neg fun z => hk z.symm]
      | some y => rfl
theorem mput_len (d : List (ky × τ)) (k : ky) (x : τ) : (mput d k x).length ≤ d.length + 1 := by
  unfold mput
  split
  · rw [List.length_map]; exact Nat.le_succ _
  · rw [List.length_append]; exact Nat.le_refl _
end
theorem PShl.of {a n : Nat} {j : Int} (h : a < 2 ^ n) (hj : 0 ≤ j) (hn : (n : Int) + j ≤ 134217728) : PShl (a : Int) j := by
  refine ⟨hj, ?_⟩
  have : Builtin.Int.intBits (a : Int) ≤ n := by
    unfold Builtin.Int.intBits
    by_cases h0 : a = 0
    · subst h0
      exact Nat.zero_le _
    · rw [if_neg (by simpa using h0), Int.natAbs_natCast]
      exact (Nat.log2_lt h0).mpr h
  omega
/-- a column -/
def cl (n : Nat) (D : Nat → Int) : List Int := (List.range n).map D
theorem cl_len (n : Nat) (D : Nat → Int) : (cl n D).length = n := by unfold cl; rw [List.length_map, List.length_range]
theorem cl_get {n i : Nat} {D : Nat → Int} (h : i < n) : (cl n D)[i]? = some (D i) := by
  unfold cl
  rw [List.getElem?_map, List.getElem?_range h]
  rfl
theorem cl_pat {n i : Nat} {D : Nat → Int} (h : i < n) : pat (cl n D) (i : Int) = some (D i) := pat_nat (cl_get h)
theorem cl_snoc (n : Nat) (D : Nat → Int) : cl n D ++ [D n] = cl (n + 1) D := by
  unfold cl
  rw [List.range_succ, List.map_append]
  rfl
theorem prange_cl (n : Nat) : prange (n : Int) = cl n fun i => (i : Int) := by
  unfold prange cl
  rw [Int.toNat_natCast]
theorem cl_congr {n : Nat} {D E : Nat → Int} (h : ∀ i, i < n → D i = E i) : cl n D = cl n E := List.map_congr_left fun i hi => h i (List.mem_range.mp hi)
theorem lcM_id {τ : Type} (xs : List τ) : lcM (fun c => some c) xs = some xs := by
  have := lcM_map (f := fun c : τ => some c) (g := fun c => c) (xs := xs) fun _ _ => rfl
  rw [this, List.map_id']
end Mi

namespace Lw
open PySem PySem.Spec PyProof.Rows L2 Fw
/-! ### the text by places -/
def top (i : Nat) : Stmt := PySem.Challenge.pw_homereads_k23_distances_and_ends.main.body.getD i (.Pass ⟨0, 0, 0, 0⟩)
abbrev s_letter_masks : Stmt := top 2
abbrev s_Column___init : Stmt := inClass (top 3) 0
abbrev s_Column_read_letter : Stmt := inClass (top 3) 1
abbrev s_distance : Stmt := top 4
abbrev s_ends : Stmt := top 5
abbrev s_law_cell : Stmt := top 7
abbrev s_law_row : Stmt := top 8
abbrev s_law_integer : Stmt := top 9
abbrev s_law_text : Stmt := top 10
abbrev s_law_turned : Stmt := top 11
abbrev s_law_read : Stmt := top 12
abbrev s_law_agree : Stmt := top 14
abbrev s_law_ends : Stmt := top 15
abbrev s_law_distance : Stmt := top 17
abbrev s_law : Stmt := top 18
theorem sc_letter_masks : FnScope ["read", "masks", "position", "letter"] ["read"] (defScope s_letter_masks) := ⟨rfl, rfl, rfl, by decide +kernel, rfl, by decide +kernel, by decide +kernel⟩
theorem sc_Column___init : FnScope ["self", "read", "is_anchored"] ["self", "read", "is_anchored"] (defScope s_Column___init) := ⟨rfl, rfl, rfl, by decide +kernel, rfl, by decide +kernel, by decide +kernel⟩
theorem sc_Column_read_letter : FnScope ["self", "letter", "same", "down", "over", "rises", "falls"] ["self", "letter"] (defScope s_Column_read_letter) := ⟨rfl, rfl, rfl, by decide +kernel, rfl, by decide +kernel, by decide +kernel⟩
theorem sc_distance : FnScope ["read", "text", "column", "result", "letter"] ["read", "text"] (defScope s_distance) := ⟨rfl, rfl, rfl, by decide +kernel, rfl, by decide +kernel, by decide +kernel⟩
theorem sc_ends : FnScope ["read", "text", "k", "result", "column", "position", "letter", "changes"] ["read", "text", "k"] (defScope s_ends) := ⟨rfl, rfl, rfl, by decide +kernel, rfl, by decide +kernel, by decide +kernel⟩
theorem sc_law_cell : FnScope ["_law_script", "_law_k"] ["_law_script", "_law_k"] (defScope s_law_cell) := ⟨rfl, rfl, rfl, by decide +kernel, rfl, by decide +kernel, by decide +kernel⟩
theorem sc_law_row : FnScope ["_law_cell_here", "_law_count", "_law_bound", "_law_rest", "_law_mixed", "_law_row_here", "_law_k"] ["_law_cell_here", "_law_count", "_law_bound"] (defScope s_law_row) := ⟨rfl, rfl, rfl, by decide +kernel, rfl, by decide +kernel, by decide +kernel⟩
theorem sc_law_integer : FnScope ["_law_value"] ["_law_value"] (defScope s_law_integer) := ⟨rfl, rfl, rfl, by decide +kernel, rfl, by decide +kernel, by decide +kernel⟩
theorem sc_law_text : FnScope ["_law_cell_here", "_law_size", "_law_drawn", "_law_kind", "_law_text_here", "_law_k", "_law_letter"] ["_law_cell_here", "_law_size"] (defScope s_law_text) := ⟨rfl, rfl, rfl, by decide +kernel, rfl, by decide +kernel, by decide +kernel⟩
theorem sc_law_turned : FnScope ["_law_text_here", "_law_news", "_law_letter"] ["_law_text_here"] (defScope s_law_turned) := ⟨rfl, rfl, rfl, by decide +kernel, rfl, by decide +kernel, by decide +kernel⟩
theorem sc_law_read : FnScope ["_law_cell_here", "_law_text_here", "_law_size", "_law_x", "_law_start", "_law_read_here", "_law_k", "_law_y", "_law_at", "_law_letter"] ["_law_cell_here", "_law_text_here", "_law_size"] (defScope s_law_read) := ⟨rfl, rfl, rfl, by decide +kernel, rfl, by decide +kernel, by decide +kernel⟩
theorem sc_law_agree : FnScope ["_law_a", "_law_b"] ["_law_a", "_law_b"] (defScope s_law_agree) := ⟨rfl, rfl, rfl, by decide +kernel, rfl, by decide +kernel, by decide +kernel⟩
theorem sc_law_ends : FnScope ["_law_read_here", "_law_text_here", "_law_column", "_law_k", "_law_found", "_law_letter", "_law_news", "_law_i", "_law_pair"] ["_law_read_here", "_law_text_here"] (defScope s_law_ends) := ⟨rfl, rfl, rfl, by decide +kernel, rfl, by decide +kernel, by decide +kernel⟩
theorem sc_law_distance : FnScope ["_law_first", "_law_second", "_law_column", "_law_k", "_law_letter", "_law_news", "_law_i", "_law_pair"] ["_law_first", "_law_second"] (defScope s_law_distance) := ⟨rfl, rfl, rfl, by decide +kernel, rfl, by decide +kernel, by decide +kernel⟩
theorem sc_law : FnScope ["_law_script", "_law_first", "_law_text_here", "_law_size", "_law_read_here", "_law_k", "_law_told", "_law_row_here", "_law_found", "_law_one", "_law_e"] ["_law_script"] (defScope s_law) := ⟨rfl, rfl, rfl, by decide +kernel, rfl, by decide +kernel, by decide +kernel⟩
structure Tx (w : World) (K : PySem.W.Frag) (mg : Str → Option Value) : Prop where
  g_letter_masks : mg "letter_masks" = some (.ref (He.ga K "letter_masks"))
  m_Column___init : Meth K (He.ga K "Column") "__init__" (He.ma K (He.ga K "Column") "__init__")
  m_Column_read_letter : Meth K (He.ga K "Column") "read_letter" (He.ma K (He.ga K "Column") "read_letter")
  g_distance : mg "distance" = some (.ref (He.ga K "distance"))
  g_ends : mg "ends" = some (.ref (He.ga K "ends"))
  g_law_cell : mg "_law_cell" = some (.ref (He.ga K "_law_cell"))
  g_law_row : mg "_law_row" = some (.ref (He.ga K "_law_row"))
  g_law_integer : mg "_law_integer" = some (.ref (He.ga K "_law_integer"))
  g_law_text : mg "_law_text" = some (.ref (He.ga K "_law_text"))
  g_law_turned : mg "_law_turned" = some (.ref (He.ga K "_law_turned"))
  g_law_read : mg "_law_read" = some (.ref (He.ga K "_law_read"))
  g_law_agree : mg "_law_agree" = some (.ref (He.ga K "_law_agree"))
  g_law_ends : mg "_law_ends" = some (.ref (He.ga K "_law_ends"))
  g_law_distance : mg "_law_distance" = some (.ref (He.ga K "_law_distance"))
  g_law : mg "law" = some (.ref (He.ga K "law"))
  z_enumerate : mg "enumerate" = none
  z_len : mg "len" = none
  z_int : mg "int" = none
  z_abs : mg "abs" = none
  z_range : mg "range" = none
  z_isinstance : mg "isinstance" = none
  z_bool : mg "bool" = none
  z_min : mg "min" = none
  z_list : mg "list" = none
  z_all : mg "all" = none
  z_tuple : mg "tuple" = none
  k_UNKNOWN : ∃ t, mg "UNKNOWN" = some (.str (S [78]) t)
  g_Column : mg "Column" = some (.ref (He.ga K "Column"))
  c_Column : Cls K (He.ga K "Column")
  n_Column_score : NoAttr K (He.ga K "Column") "score"
  n_Column_less : NoAttr K (He.ga K "Column") "less"
  n_Column_more : NoAttr K (He.ga K "Column") "more"
  n_Column_first : NoAttr K (He.ga K "Column") "first"
  n_Column_highest : NoAttr K (He.ga K "Column") "highest"
  n_Column_full : NoAttr K (He.ga K "Column") "full"
  n_Column_masks : NoAttr K (He.ga K "Column") "masks"
  mk_Column : Mk K (He.ga K "Column") (He.ma K (He.ga K "Column") "__init__")
  d_letter_masks : ∃ fd, FnP K "letter_masks" "letter_masks" s_letter_masks (He.ga K "letter_masks") fd
  d_Column___init : ∃ fd, FnP K "__init__" "Column.__init__" s_Column___init (He.ma K (He.ga K "Column") "__init__") fd
  d_Column_read_letter : ∃ fd, FnP K "read_letter" "Column.read_letter" s_Column_read_letter (He.ma K (He.ga K "Column") "read_letter") fd
  d_distance : ∃ fd, FnP K "distance" "distance" s_distance (He.ga K "distance") fd
  d_ends : ∃ fd, FnP K "ends" "ends" s_ends (He.ga K "ends") fd
  d_law_cell : ∃ fd, FnP K "_law_cell" "_law_cell" s_law_cell (He.ga K "_law_cell") fd
  d_law_row : ∃ fd, FnP K "_law_row" "_law_row" s_law_row (He.ga K "_law_row") fd
  d_law_integer : ∃ fd, FnP K "_law_integer" "_law_integer" s_law_integer (He.ga K "_law_integer") fd
  d_law_text : ∃ fd, FnP K "_law_text" "_law_text" s_law_text (He.ga K "_law_text") fd
  d_law_turned : ∃ fd, FnP K "_law_turned" "_law_turned" s_law_turned (He.ga K "_law_turned") fd
  d_law_read : ∃ fd, FnP K "_law_read" "_law_read" s_law_read (He.ga K "_law_read") fd
  d_law_agree : ∃ fd, FnP K "_law_agree" "_law_agree" s_law_agree (He.ga K "_law_agree") fd
  d_law_ends : ∃ fd, FnP K "_law_ends" "_law_ends" s_law_ends (He.ga K "_law_ends") fd
  d_law_distance : ∃ fd, FnP K "_law_distance" "_law_distance" s_law_distance (He.ga K "_law_distance") fd
  d_law : ∃ fd, FnP K "law" "law" s_law (He.ga K "law") fd
end Lw
namespace Lw
open PySem PySem.Spec PyProof.Rows L2 Fw Mi
abbrev Tc_Column : Type := Int × Int × Int × Int × Int × Int × (List ((List Nat) × Int)) × Unit
abbrev fd_Column (K : PySem.W.Frag) : Fd Tc_Column := (fdC "score" (sF jI) (fdC "less" (sF jI) (fdC "more" (sF jI) (fdC "first" (sF jI) (fdC "highest" (sF jI) (fdC "full" (sF jI) (fdC "masks" (sF (jM kyS jI)) fdN)))))))
abbrev rp_Column (K : PySem.W.Frag) : Rp Tc_Column := jX (He.ga K "Column") (fd_Column K)
theorem nh_Column_read_letter (K : PySem.W.Frag) : ("read_letter" : Str) ∉ (fd_Column K).nm := by show _ ∉ (["score", "less", "more", "first", "highest", "full", "masks"] : List Str); decide +kernel
end Lw
namespace Lw
open PySem PySem.Spec PyProof.Rows L2 Fw Mi
section
variable {P : Program} {w : World} {K : PySem.W.Frag} {mg : Str → Option Value} {base : Heap}
noncomputable def m_law_cell (script : (List Int)) (k : Int) : Option Int := fin (κ := Unit) (ρ := Unit) (rb (if (decide (k < (script.length : Int))) = true then (rb (ob (ob (ob (pat script k) fun x4 => some (x4, ())) fun z5 => some z5.1) fun r6 => some (.ret r6)) fun γ => some (.nxt γ)) else (some (.nxt (script, k, ())))) fun γ => rb (some (.ret (0 : Int))) fun γ => some (.nxt γ))
abbrev sp_law_cell (K : PySem.W.Frag) : Sp := spM (aC (jQ K jI) (aC jI aN)) (sF jI) (fun γ => m_law_cell γ.1 γ.2.1)
theorem ok_law_cell (T : Tx w K mg) : Dn P w K mg base 1 (He.ga K "_law_cell") ["_law_script", "_law_k"] (sp_law_cell K) := by
  refine dn_mk T.d_law_cell sc_law_cell (fun _ _ _ _ _ _ us hl => match us, hl with | [_, _], _ => rfl) (spM_len (an_C (an_C an_0))) fun cdv A outer s H vs Q E hr h => ?_
  refine ⟨_, (pss_cons (ps_if (pt_cmpR op_lt (pv 1) (pe_callB (lenQ_ (K := K)) (by rfl) T.z_len (by decide +kernel) (pa_cons (pv 0) pa_nil)) (nomark _))
      (pss_cons (ps_ret (pe_callTy k_int (by rfl) T.z_int (by decide +kernel) (pa_cons (pe_ix (ixL_ (K := K)) (pv 0) (pv 1) (fun _ _ => rfl)) pa_nil)))
      pss_nil)
      pss_nil)
      (pss_cons (ps_ret pe_int)
      pss_nil)), ?_⟩
  refine fin_runX (E := (eC (sF (jQ K jI)) (eC (sF jI) eN))) (E' := eN) (ae_C (ae_C ae_0)) (an_C (an_C an_0)) rfl ?S h rfl
  exact ⟨_, (ss_seq (ss_if (st_test (se_op (se_var (gS g0)) (se_cb (sa_cons (se_var g0) sa_nil) (sc_lenQ (K := K))) (s2_C0 (f := fun i j => decide (i < j))))) (ss_seq (ss_ret (se_cb (sa_cons (se_op (se_var g0) (se_var (gS g0)) s2_ixQ) sa_nil) sc_int)) ss_nil) ss_nil) (ss_seq (ss_ret se_int) ss_nil)), by exact rfl⟩
end
end Lw
namespace Lw
open PySem PySem.Spec PyProof.Rows L2 Fw Mi
local macro_rules | `(tactic| walk_at "m") => `(tactic| simp only [pidx_one, pinS_one, pninS_one, W_some, W_none, W_ob, W_bind, W_pck, W_rb, W_fin, W_finN, W_T, W_F, W_Tr, W_Fa, Rw_nxt, Rw_ret, Rw_cnt, Rf_ret, Rf_nxt, RfN_ret, RfN_nxt, W_finU, RfU_nxt, W_finZ, W_finZN, RfZ_nxt, lcM_id, W_obx, Xf_ok, Xf_er, W_rbx, Xr_ok, Xr_er, W_okx, W_finNX, RfNX_ret, RfNX_nxt, W_finUX, RfUX_nxt, RfUX_er, W_trx, Xt_ok, Xt_er, decide_true, decide_false, Bool.not_true, Bool.not_false])
theorem w_cell {ns : List Int} {k : Int} {Q : Int → Prop} (hk : 0 ≤ k) (q : ∀ c, Q c) : W (m_law_cell ns k) Q := by
  unfold m_law_cell
  walk_at "m"
  refine W_ifD (fun h => ?_) (fun h => ?_)
  · walk_at "m"
    exact W_pat ⟨hk, h⟩ fun c _ => q c
  · walk_at "m"
    exact q _

end Lw
namespace Lw
open PySem PySem.Spec PyProof.Rows L2 Fw Mi
section
variable {P : Program} {w : World} {K : PySem.W.Frag} {mg : Str → Option Value} {base : Heap}
noncomputable def m_law_row (cell : Int) (count : Int) (bound : Int) : Option (List Int) := fin (κ := Unit) (ρ := Unit) (ob (ob (pck (PMod cell (1000003 : Int)) (cell % (1000003 : Int))) fun x1 => some (x1 + (1 : Int))) fun mixed => ob (pck (([] : List Int).length ≤ sz) []) fun row => rb (ob (pck (-4611686018427387904 ≤ count ∧ count < 4611686018427387904) (prange count)) fun xs16 => (forR (fun (x_ : Int) (γ : (Int × Int × Int × Int × Int × (List Int) × Unit)) => let k := x_; let cell := γ.1; let count := γ.2.1; let bound := γ.2.2.1; let rest := γ.2.2.2.1; let mixed := γ.2.2.2.2.1; let row := γ.2.2.2.2.2.1; rb (if (decide (bound ≤ rest)) = true then ((ob (pck (PMod rest bound) (rest % bound)) fun x3 => ob (pck (row.length < sz) (row ++ [x3])) fun w2 => ob (pck (PDiv rest bound) (rest / bound)) fun rest => some (.nxt (cell, count, bound, rest, mixed, w2, k, ())))) else (ob (ob (ob (ob (ob (ob (pck (PMul mixed (48271 : Int)) (mixed * (48271 : Int))) fun x4 => (ob (pck (PMul (11 : Int) k) ((11 : Int) * k)) fun y5 => some (x4 + y5))) fun x6 => some (x6 + (7 : Int))) fun x7 => some (x7, ())) fun z8 => some z8.1) fun x9 => (pck (PMod x9 (2147483647 : Int)) (x9 % (2147483647 : Int)))) fun mixed => (ob (ob (ob (ob (ob (pck (PMul mixed (2862933555777941757 : Int)) (mixed * (2862933555777941757 : Int))) fun x10 => (pck (PDiv x10 (1024 : Int)) (x10 / (1024 : Int)))) fun x11 => some (x11, ())) fun z12 => some z12.1) fun x13 => (pck (PMod x13 bound) (x13 % bound))) fun x15 => ob (pck (row.length < sz) (row ++ [x15])) fun w14 => some (.nxt (cell, count, bound, rest, mixed, w14, k, ()))))) fun γ => let cell := γ.1; let count := γ.2.1; let bound := γ.2.2.1; let rest := γ.2.2.2.1; let mixed := γ.2.2.2.2.1; let row := γ.2.2.2.2.2.1; some (.nxt (cell, count, bound, rest, mixed, row, ()))) xs16 (cell, count, bound, (cell.natAbs : Int), mixed, row, ()))) fun γ => let row := γ.2.2.2.2.2.1; rb (some (.ret row)) fun γ => some (.nxt γ))
abbrev sp_law_row (K : PySem.W.Frag) : Sp := spM (aC jI (aC jI (aC jI aN))) (sO jI) (fun γ => m_law_row γ.1 γ.2.1 γ.2.2.1)
theorem ok_law_row (T : Tx w K mg) : Dn P w K mg base 1 (He.ga K "_law_row") ["_law_cell_here", "_law_count", "_law_bound"] (sp_law_row K) := by
  refine dn_mk T.d_law_row sc_law_row (fun _ _ _ _ _ _ us hl => match us, hl with | [_, _, _], _ => rfl) (spM_len (an_C (an_C (an_C an_0)))) fun cdv A outer s H vs Q E hr h => ?_
  refine ⟨_, (pss_cons (ps_set (i := 3) sc_law_row.nd rfl (.inl rfl) (pe_callB k_abs (by rfl) T.z_abs (by decide +kernel) (pa_cons (pe_callTy k_int (by rfl) T.z_int (by decide +kernel) (pa_cons (pv 0) pa_nil)) pa_nil)))
      (pss_cons (ps_set (i := 4) sc_law_row.nd rfl (.inl rfl) (pe_op op_add (pe_op op_mod (pe_callTy k_int (by rfl) T.z_int (by decide +kernel) (pa_cons (pv 0) pa_nil)) pe_int) pe_int))
      (pss_cons (ps_set (i := 5) sc_law_row.nd rfl (.inl rfl) (pe_lst pa_nil))
      (pss_cons (ps_for PassesOwn.never rfl (pi_range1 (by rfl) T.z_range (pa_cons (pv 1) pa_nil)) (pg_name (i := 6) sc_law_row.nd rfl (.inl rfl))
      (pss_cons (ps_if (pt_cmpR op_ge (pv 3) (pv 2) (nomark _))
      (pss_cons (ps_expr (bm_ (K := K) PySem.F.plainAttrs_list PySem.F.slot_list_append PySem.F.type_list_append mt_append (pv 5) (pa_cons (pe_op op_mod (pe_callTy k_int (by rfl) T.z_int (by decide +kernel) (pa_cons (pv 3) pa_nil)) (pv 2)) pa_nil)))
      (pss_cons (ps_set (i := 3) sc_law_row.nd rfl (.inl rfl) (pe_op op_fdiv (pv 3) (pv 2)))
      pss_nil))
      (pss_cons (ps_set (i := 4) sc_law_row.nd rfl (.inl rfl) (pe_op op_mod (pe_callTy k_int (by rfl) T.z_int (by decide +kernel) (pa_cons (pe_op op_add (pe_op op_add (pe_op op_mul (pv 4) pe_int) (pe_op op_mul pe_int (pv 6))) pe_int) pa_nil)) pe_int))
      (pss_cons (ps_expr (bm_ (K := K) PySem.F.plainAttrs_list PySem.F.slot_list_append PySem.F.type_list_append mt_append (pv 5) (pa_cons (pe_op op_mod (pe_callTy k_int (by rfl) T.z_int (by decide +kernel) (pa_cons (pe_op op_fdiv (pe_op op_mul (pv 4) pe_int) pe_int) pa_nil)) (pv 2)) pa_nil)))
      pss_nil)))
      pss_nil))
      (pss_cons (ps_ret (pv 5))
      pss_nil))))), ?_⟩
  refine fin_runX (E := (eC (sF jI) (eC (sF jI) (eC (sF jI) (eU (eU (eU (eU eN)))))))) (E' := eN) (ae_C (ae_C (ae_C (ae_U rfl (ae_U rfl (ae_U rfl (ae_U rfl ae_0))))))) (an_C (an_C (an_C an_0))) rfl ?S h rfl
  exact ⟨_, (ss_asg (se_cb (sa_cons (se_cb (sa_cons (se_var g0) sa_nil) sc_int) sa_nil) sc_abs) (pS (pS (pS p0U))) (ss_asg (se_op (se_op (se_cb (sa_cons (se_var g0) sa_nil) sc_int) se_int s2_mod) se_int (s2_I0 (f := fun i j => i + j))) (pS (pS (pS (pS p0U)))) (ss_asg (se_lst (A := jI) sl_nil) (pS (pS (pS (pS (pS p0U))))) (ss_seq (ss_for (si_r1 (sa_cons (se_var (gS g0)) sa_nil)) (sg_name (pS (pS (pS (pS (pS (pS p0U))))))) (ss_seq (ss_if (st_test (se_op (se_var (gS (gS (gS g0)))) (se_var (gS (gS g0))) (s2_C0 (f := fun i j => decide (j ≤ i))))) (ss_app (K := K) (uS (uS (uS (uS (uS u0))))) (se_op (se_cb (sa_cons (se_var (gS (gS (gS g0)))) sa_nil) sc_int) (se_var (gS (gS g0))) s2_mod) (ss_asg (se_op (se_var (gS (gS (gS g0)))) (se_var (gS (gS g0))) s2_div) (pS (pS (pS p0))) ss_nil)) (ss_asg (se_op (se_cb (sa_cons (se_op (se_op (se_op (se_var (gS (gS (gS (gS g0))))) se_int s2_mul) (se_op se_int (se_var (gS (gS (gS (gS (gS (gS g0))))))) s2_mul) (s2_I0 (f := fun i j => i + j))) se_int (s2_I0 (f := fun i j => i + j))) sa_nil) sc_int) se_int s2_mod) (pS (pS (pS (pS p0)))) (ss_app (K := K) (uS (uS (uS (uS (uS u0))))) (se_op (se_cb (sa_cons (se_op (se_op (se_var (gS (gS (gS (gS g0))))) se_int s2_mul) se_int s2_div) sa_nil) sc_int) (se_var (gS (gS g0))) s2_mod) ss_nil))) (ss_co (cK (cK (cK (cK (cK (cK (cF cId)))))))))) (ss_seq (ss_retO (gS (gS (gS (gS (gS g0)))))) ss_nil))))), by exact rfl⟩
end
end Lw
namespace Lw
open PySem PySem.Spec PyProof.Rows L2 Fw Mi
local macro_rules | `(tactic| walk_at "m") => `(tactic| simp only [pidx_one, pinS_one, pninS_one, W_some, W_none, W_ob, W_bind, W_pck, W_rb, W_fin, W_finN, W_T, W_F, W_Tr, W_Fa, Rw_nxt, Rw_ret, Rw_cnt, Rf_ret, Rf_nxt, RfN_ret, RfN_nxt, W_finU, RfU_nxt, W_finZ, W_finZN, RfZ_nxt, lcM_id, W_obx, Xf_ok, Xf_er, W_rbx, Xr_ok, Xr_er, W_okx, W_finNX, RfNX_ret, RfNX_nxt, W_finUX, RfUX_nxt, RfUX_er, W_trx, Xt_ok, Xt_er, decide_true, decide_false, Bool.not_true, Bool.not_false])
theorem w_row {c n b : Int} {Q : List Int → Prop} (hn : 0 ≤ n ∧ n < 1000000) (hb : 0 < b ∧ b < 1073741824) (q : ∀ ns : List Int, ns.length = n.toNat → (∀ x ∈ ns, 0 ≤ x ∧ x < b) → Q ns) : W (m_law_row c n b) Q := by
  unfold m_law_row
  walk_at "m"
  refine ⟨by omega, by simp, by omega, ?_⟩
  refine W_for (fun i γ => ∃ rest mixed row, γ = (c, n, b, rest, mixed, row, ()) ∧ 0 ≤ rest ∧ (0 ≤ mixed ∧ mixed < 2147483648) ∧ row.length = i ∧ ∀ x ∈ row, 0 ≤ x ∧ x < b) ⟨_, _, [], rfl, by omega, by omega, rfl, by simp⟩ ?_ ?_
  · rintro i k γ hk ⟨rest, mixed, row, rfl, h1, h2, h3, h4⟩
    obtain ⟨rfl, hi⟩ := prange_get hk
    walk_at "m"
    have hm : ∀ y : Int, 0 ≤ y % b ∧ y % b < b := fun y => ⟨Int.emod_nonneg _ (by omega), Int.emod_lt_of_pos _ hb.1⟩
    have hap : ∀ y, (0 ≤ y ∧ y < b) → ∀ x ∈ row ++ [y], 0 ≤ x ∧ x < b := fun y hy x hx => by
      rcases List.mem_append.mp hx with hx | hx
      · exact h4 x hx
      · rw [List.mem_singleton.mp hx]; exact hy
    refine W_ifD (fun h => ?_) (fun h => ?_)
    · walk_at "m"
      refine ⟨hb.1, by unfold sz; omega, ⟨hb.1, hb.2⟩, _, _, _, rfl, Int.ediv_nonneg h1 (by omega), h2, by simp [h3], hap _ (hm _)⟩
    · walk_at "m"
      refine ⟨by omega, by omega, by omega, by omega, by omega, hb.1, by unfold sz; omega, _, _, _, rfl, h1, by omega, by simp [h3], hap _ (hm _)⟩
  · rintro γ ⟨rest, mixed, row, rfl, h1, h2, h3, h4⟩
    walk_at "m"
    exact q _ (by rw [h3, prange_len]) h4

end Lw
namespace Lw
open PySem PySem.Spec PyProof.Rows L2 Fw Mi
section
variable {P : Program} {w : World} {K : PySem.W.Frag} {mg : Str → Option Value} {base : Heap}
noncomputable def m_law_text (cell : Int) (size : Int) : Option (List Nat) := fin (κ := Unit) (ρ := Unit) (ob (m_law_row cell size (97 : Int)) fun drawn => ob (ob (pck (PDiv (cell.natAbs : Int) (7 : Int)) ((cell.natAbs : Int) / (7 : Int))) fun x1 => (pck (PMod x1 (4 : Int)) (x1 % (4 : Int)))) fun kind => let text := ([] : List Nat); rb (ob (pck (-4611686018427387904 ≤ size ∧ size < 4611686018427387904) (prange size)) fun xs11 => (forR (fun (x_ : Int) (γ : (Int × Int × (List Int) × Int × (List Nat) × Unit)) => let k := x_; let cell := γ.1; let size := γ.2.1; let drawn := γ.2.2.1; let kind := γ.2.2.2.1; let text := γ.2.2.2.2.1; ob (ob (ob (pat drawn k) fun x2 => (pck (PMod x2 (4 : Int)) (x2 % (4 : Int)))) fun y3 => (pixS ([65, 67, 71, 84] : List Nat) y3)) fun letter => rb ((ob (if (decide (kind = (1 : Int))) = true then (if (decide ((4 : Int) < k)) = true then (ob (ob (pat drawn k) fun x4 => (pck (PMod x4 (11 : Int)) (x4 % (11 : Int)))) fun x5 => some (decide ((0 : Int) < x5))) else some false) else some false) fun b6 => if b6 = true then (ob (pixS text (k - (5 : Int))) fun letter => some (.nxt (cell, size, drawn, kind, text, k, letter, ()))) else (some (.nxt (cell, size, drawn, kind, text, k, letter, ()))))) fun γ => let cell := γ.1; let size := γ.2.1; let drawn := γ.2.2.1; let kind := γ.2.2.2.1; let text := γ.2.2.2.2.1; let k := γ.2.2.2.2.2.1; let letter := γ.2.2.2.2.2.2.1; rb (if (decide (kind = (2 : Int))) = true then (ob (ob (ob (pat drawn k) fun x7 => (pck (PMod x7 (2 : Int)) (x7 % (2 : Int)))) fun y8 => (pixS ([65, 67] : List Nat) y8)) fun letter => some (.nxt (cell, size, drawn, kind, text, k, letter, ()))) else (some (.nxt (cell, size, drawn, kind, text, k, letter, ())))) fun γ => let cell := γ.1; let size := γ.2.1; let drawn := γ.2.2.1; let kind := γ.2.2.2.1; let text := γ.2.2.2.2.1; let k := γ.2.2.2.2.2.1; let letter := γ.2.2.2.2.2.2.1; rb ((ob (if (decide (kind = (3 : Int))) = true then (ob (pat drawn k) fun x9 => some (decide ((88 : Int) < x9))) else some false) fun b10 => if b10 = true then (let letter := ([78] : List Nat); some (.nxt (cell, size, drawn, kind, text, k, letter, ()))) else (some (.nxt (cell, size, drawn, kind, text, k, letter, ()))))) fun γ => let cell := γ.1; let size := γ.2.1; let drawn := γ.2.2.1; let kind := γ.2.2.2.1; let text := γ.2.2.2.2.1; let letter := γ.2.2.2.2.2.2.1; ob (pck (text.length + letter.length ≤ sz) (text ++ letter)) fun text => some (.nxt (cell, size, drawn, kind, text, ()))) xs11 (cell, size, drawn, kind, text, ()))) fun γ => let text := γ.2.2.2.2.1; rb (some (.ret text)) fun γ => some (.nxt γ))
abbrev sp_law_text (K : PySem.W.Frag) : Sp := spM (aC jI (aC jI aN)) (sF jS) (fun γ => m_law_text γ.1 γ.2.1)
theorem ok_law_text (T : Tx w K mg) : Dn P w K mg base 2 (He.ga K "_law_text") ["_law_cell_here", "_law_size"] (sp_law_text K) := by
  obtain ⟨fd_law_row, G_law_row, b_law_row, kp_law_row, _⟩ := ok_law_row (P := P) (w := w) (base := base) T
  refine dn_mk T.d_law_text sc_law_text (fun _ _ _ _ _ _ us hl => match us, hl with | [_, _], _ => rfl) (spM_len (an_C (an_C an_0))) fun cdv A outer s H vs Q E hr h => ?_
  refine ⟨_, (pss_cons (ps_set (i := 2) sc_law_text.nd rfl (.inl rfl) (pe_call G_law_row (hr.mono (by decide)) (by rfl) T.g_law_row kp_law_row b_law_row .nil pass0 (pa_cons (pv 0) (pa_cons (pv 1) (pa_cons pe_int pa_nil)))))
      (pss_cons (ps_set (i := 3) sc_law_text.nd rfl (.inl rfl) (pe_op op_mod (pe_op op_fdiv (pe_callB k_abs (by rfl) T.z_abs (by decide +kernel) (pa_cons (pe_callTy k_int (by rfl) T.z_int (by decide +kernel) (pa_cons (pv 0) pa_nil)) pa_nil)) pe_int) pe_int))
      (pss_cons (ps_set (i := 4) sc_law_text.nd rfl (.inl rfl) (pe_strL (l := []) (by decide +kernel)))
      (pss_cons (ps_for PassesOwn.never rfl (pi_range1 (by rfl) T.z_range (pa_cons (pv 1) pa_nil)) (pg_name (i := 5) sc_law_text.nd rfl (.inl rfl))
      (pss_cons (ps_set (i := 6) sc_law_text.nd rfl (.inl rfl) (pe_ix k_ixS (pe_strL (l := [65, 67, 71, 84]) (by decide +kernel)) (pe_op op_mod (pe_ix (ixL_ (K := K)) (pv 2) (pv 5) (fun _ _ => rfl)) pe_int) (fun _ _ => rfl)))
      (pss_cons (ps_if (PW.pt (pw_and (pt_cmpR op_eq (pv 3) pe_int (nomark _)) (pw_and (pt_cmpR op_gt (pv 5) pe_int (nomark _)) (pw_and1 (pt_cmpR op_gt (pe_op op_mod (pe_ix (ixL_ (K := K)) (pv 2) (pv 5) (fun _ _ => rfl)) pe_int) pe_int (nomark _))))))
      (pss_cons (ps_set (i := 6) sc_law_text.nd rfl (.inl rfl) (pe_ix k_ixS (pv 4) (pe_op op_sub (pv 5) pe_int) (fun _ _ => rfl)))
      pss_nil)
      pss_nil)
      (pss_cons (ps_if (pt_cmpR op_eq (pv 3) pe_int (nomark _))
      (pss_cons (ps_set (i := 6) sc_law_text.nd rfl (.inl rfl) (pe_ix k_ixS (pe_strL (l := [65, 67]) (by decide +kernel)) (pe_op op_mod (pe_ix (ixL_ (K := K)) (pv 2) (pv 5) (fun _ _ => rfl)) pe_int) (fun _ _ => rfl)))
      pss_nil)
      pss_nil)
      (pss_cons (ps_if (PW.pt (pw_and (pt_cmpR op_eq (pv 3) pe_int (nomark _)) (pw_and1 (pt_cmpR op_gt (pe_ix (ixL_ (K := K)) (pv 2) (pv 5) (fun _ _ => rfl)) pe_int (nomark _)))))
      (pss_cons (ps_set (i := 6) sc_law_text.nd rfl (.inl rfl) (pe_strL (l := [78]) (by decide +kernel)))
      pss_nil)
      pss_nil)
      (pss_cons (ps_set (i := 4) sc_law_text.nd rfl (.inl rfl) (pe_op k_addS (pv 4) (pv 6)))
      pss_nil))))))
      (pss_cons (ps_ret (pv 4))
      pss_nil))))), ?_⟩
  refine fin_runX (E := (eC (sF jI) (eC (sF jI) (eU (eU (eU (eU (eU eN)))))))) (E' := eN) (ae_C (ae_C (ae_U rfl (ae_U rfl (ae_U rfl (ae_U rfl (ae_U rfl ae_0))))))) (an_C (an_C an_0)) rfl ?S h rfl
  exact ⟨_, (ss_asg (se_call (sa_cons (se_var g0) (sa_cons (se_var (gS g0)) (sa_cons se_int sa_nil)))) (pS (pS p0U)) (ss_asg (se_op (se_op (se_cb (sa_cons (se_cb (sa_cons (se_var g0) sa_nil) sc_int) sa_nil) sc_abs) se_int s2_div) se_int s2_mod) (pS (pS (pS p0U))) (ss_asg (se_str (l := [])) (pS (pS (pS (pS p0U)))) (ss_seq (ss_for (si_r1 (sa_cons (se_var (gS g0)) sa_nil)) (sg_name (pS (pS (pS (pS (pS p0U)))))) (ss_asg (se_op (se_str (l := [65, 67, 71, 84])) (se_op (se_ixB (K := K) (sb_var (gS (gS g0))) (se_var (gS (gS (gS (gS (gS g0))))))) se_int s2_mod) s2_ixS) (pS (pS (pS (pS (pS (pS p0U)))))) (ss_seq (ss_if (st_and (st_test (se_op (se_var (gS (gS (gS g0)))) se_int (s2_eqI))) (st_and (st_test (se_op (se_var (gS (gS (gS (gS (gS g0)))))) se_int (s2_C0 (f := fun i j => decide (j < i))))) (st_test (se_op (se_op (se_ixB (K := K) (sb_var (gS (gS g0))) (se_var (gS (gS (gS (gS (gS g0))))))) se_int s2_mod) se_int (s2_C0 (f := fun i j => decide (j < i))))))) (ss_asg (se_op (se_var (gS (gS (gS (gS g0))))) (se_op (se_var (gS (gS (gS (gS (gS g0)))))) se_int (s2_I0 (f := fun i j => i - j))) s2_ixS) (pS (pS (pS (pS (pS (pS p0)))))) ss_nil) ss_nil) (ss_seq (ss_if (st_test (se_op (se_var (gS (gS (gS g0)))) se_int (s2_eqI))) (ss_asg (se_op (se_str (l := [65, 67])) (se_op (se_ixB (K := K) (sb_var (gS (gS g0))) (se_var (gS (gS (gS (gS (gS g0))))))) se_int s2_mod) s2_ixS) (pS (pS (pS (pS (pS (pS p0)))))) ss_nil) ss_nil) (ss_seq (ss_if (st_and (st_test (se_op (se_var (gS (gS (gS g0)))) se_int (s2_eqI))) (st_test (se_op (se_ixB (K := K) (sb_var (gS (gS g0))) (se_var (gS (gS (gS (gS (gS g0))))))) se_int (s2_C0 (f := fun i j => decide (j < i)))))) (ss_asg (se_str (l := [78])) (pS (pS (pS (pS (pS (pS p0)))))) ss_nil) ss_nil) (ss_asg (se_op (se_var (gS (gS (gS (gS g0))))) (se_var (gS (gS (gS (gS (gS (gS g0))))))) s2_addS) (pS (pS (pS (pS p0)))) (ss_co (cK (cK (cK (cK (cK (cF (cF cId)))))))))))))) (ss_seq (ss_ret (se_var (gS (gS (gS (gS g0)))))) ss_nil))))), by exact rfl⟩
end
end Lw
namespace Lw
open PySem PySem.Spec PyProof.Rows L2 Fw Mi
local macro_rules | `(tactic| walk_at "m") => `(tactic| simp only [pidx_one, pinS_one, pninS_one, W_some, W_none, W_ob, W_bind, W_pck, W_rb, W_fin, W_finN, W_T, W_F, W_Tr, W_Fa, Rw_nxt, Rw_ret, Rw_cnt, Rf_ret, Rf_nxt, RfN_ret, RfN_nxt, W_finU, RfU_nxt, W_finZ, W_finZN, RfZ_nxt, lcM_id, W_obx, Xf_ok, Xf_er, W_rbx, Xr_ok, Xr_er, W_okx, W_finNX, RfNX_ret, RfNX_nxt, W_finUX, RfUX_nxt, RfUX_er, W_trx, Xt_ok, Xt_er, decide_true, decide_false, Bool.not_true, Bool.not_false])
theorem w_text {c s : Int} {Q : List Nat → Prop} (hs : 0 ≤ s ∧ s < 1000000) (q : ∀ l : List Nat, l.length = s.toNat → Ltr l → Q l) : W (m_law_text c s) Q := by
  unfold m_law_text
  walk_at "m"
  refine w_row hs (by omega) fun ns hl hx => ?_
  refine ⟨by omega, by omega, by omega, ?_⟩
  generalize (c.natAbs : Int) / 7 % 4 = kind
  refine W_for (fun i γ => ∃ l, γ = (c, s, ns, kind, l, ()) ∧ l.length = i ∧ Ltr l) ⟨[], rfl, rfl, fun _ h => (nomatch h)⟩ ?_ ?_
  · rintro i k γ hk ⟨l, rfl, hll, hlt⟩
    obtain ⟨rfl, hi⟩ := prange_get hk
    walk_at "m"
    have hin : 0 ≤ (i : Int) ∧ (i : Int) < ns.length := by omega
    refine W_pat hin fun d hd => ⟨by omega, ?_⟩
    have hd0 := hx d (List.mem_of_getElem? hd)
    refine W_pixS (by decide) (by show 0 ≤ d % 4 ∧ d % 4 < 4; omega) fun x1 hx1 => ?_
    have l1 : Ltr [x1] := fun c hc => by
      rw [List.mem_singleton.mp hc]
      have := List.mem_of_getElem? hx1
      simp only [List.mem_cons, List.not_mem_nil, or_false] at this ⊢
      omega
    have fin : ∀ x2, Ltr [x2] → l.length + [x2].length ≤ sz ∧ ∃ l', (c, s, ns, kind, l ++ [x2], ()) = (c, s, ns, kind, l', ()) ∧ l'.length = i + 1 ∧ Ltr l' := fun x2 h2 =>
      ⟨by unfold sz; simp; omega, _, rfl, by simp [hll], hlt.app h2⟩
    rw [← W_ob]
    refine W.mono (Q := fun r => ∃ x2, r = .nxt (c, s, ns, kind, l, (i : Int), [x2], ()) ∧ Ltr [x2]) ?_ ?_
    · walk_at "m"
      refine W.mono (Q := fun y => y = true → 4 < (i : Int)) ?_ fun y hy => W_ifB (fun h => ?_) (fun h => ?_)
      · refine W_ifD (fun h => ?_) (fun h => ?_)
        · refine W_ifD (fun h => ?_) (fun h => ?_)
          · walk_at "m"
            exact W_pat hin fun d hd => ⟨by omega, fun _ => h⟩
          · walk_at "m"
            exact fun h => nomatch h
        · walk_at "m"
          exact fun h => nomatch h
      · have := hy h
        walk_at "m"
        exact W_pixS (by unfold sz; omega) (by omega) fun x2 hx2 => ⟨x2, rfl, hlt.sub fun c hc => by rw [List.mem_singleton.mp hc]; exact List.mem_of_getElem? hx2⟩
      · walk_at "m"
        exact ⟨x1, rfl, l1⟩
    rintro _ ⟨x2, rfl, l2⟩
    walk_at "m"
    refine W.mono (Q := fun r => ∃ x3, r = .nxt (c, s, ns, kind, l, (i : Int), [x3], ()) ∧ Ltr [x3]) ?_ ?_
    · refine W_ifD (fun h => ?_) (fun h => ?_)
      · walk_at "m"
        refine W_pat hin fun d hd => ⟨by omega, ?_⟩
        refine W_pixS (by decide) (by show 0 ≤ d % 2 ∧ d % 2 < 2; omega) fun x3 hx3 => ⟨x3, rfl, fun c hc => ?_⟩
        rw [List.mem_singleton.mp hc]
        have := List.mem_of_getElem? hx3
        simp only [List.mem_cons, List.not_mem_nil, or_false] at this ⊢
        omega
      · walk_at "m"
        exact ⟨x2, rfl, l2⟩
    rintro _ ⟨x3, rfl, l3⟩
    walk_at "m"
    rw [← W_ob]
    refine W.mono (Q := fun r => ∃ x4, r = .nxt (c, s, ns, kind, l, (i : Int), [x4], ()) ∧ Ltr [x4]) ?_ ?_
    · walk_at "m"
      refine W.mono (Q := fun y => True) ?_ fun y hy => W_ifB (fun h => ?_) (fun h => ?_)
      · refine W_ifD (fun h => ?_) (fun h => ?_)
        · walk_at "m"
          exact W_pat hin fun d hd => trivial
        · walk_at "m"
      · walk_at "m"
        exact ⟨78, rfl, fun c hc => by rw [List.mem_singleton.mp hc]; decide⟩
      · walk_at "m"
        exact ⟨x3, rfl, l3⟩
    rintro _ ⟨x4, rfl, l4⟩
    walk_at "m"
    exact ⟨by unfold sz; simp; omega, _, rfl, by simp [hll], hlt.app l4⟩
  · rintro γ ⟨l, rfl, hll, hlt⟩
    walk_at "m"
    exact q _ (by rw [hll, prange_len]) hlt

end Lw
namespace My
open PySem PyProof.Rows
/-! ### rows of bits -/
def tb (x : Int) (k : Nat) : Bool := if 0 ≤ x then x.toNat.testBit k else !((Builtin.bitNot x).toNat.testBit k)
theorem tb_nat (a : Nat) (k : Nat) : tb (a : Int) k = a.testBit k := by unfold tb; rw [if_pos (by omega), Int.toNat_natCast]
theorem tb_pos {x : Int} {k : Nat} (h : 0 ≤ x) : tb x k = x.toNat.testBit k := if_pos h
theorem tb_neg {x : Int} {k : Nat} (h : ¬ 0 ≤ x) : tb x k = !((Builtin.bitNot x).toNat.testBit k) := if_neg h
theorem tb_not (x : Int) (k : Nat) : tb (Builtin.bitNot x) k = !tb x k := by
  by_cases h : 0 ≤ x
  · rw [tb_pos h, tb_neg (by unfold Builtin.bitNot; omega), bitNot_bitNot]
  · rw [tb_neg h, tb_pos (bitNot_nonneg.mpr h), Bool.not_not]
theorem sub_and (a m k : Nat) : (a - (a &&& m)).testBit k = (a.testBit k && !m.testBit k) := by
  have e : a - (a &&& m) = a ^^^ (a &&& m) := by
    have h1 := nat_or_add_and (a ^^^ (a &&& m)) (a &&& m)
    have h2 : (a ^^^ (a &&& m)) ||| (a &&& m) = a := Nat.eq_of_testBit_eq fun i => by
      simp only [Nat.testBit_or, Nat.testBit_xor, Nat.testBit_and]
      cases a.testBit i <;> cases m.testBit i <;> rfl
    have h3 : (a ^^^ (a &&& m)) &&& (a &&& m) = 0 := Nat.eq_of_testBit_eq fun i => by
      simp only [Nat.testBit_xor, Nat.testBit_and, Nat.zero_testBit]
      cases a.testBit i <;> cases m.testBit i <;> rfl
    omega
  rw [e]
  simp only [Nat.testBit_xor, Nat.testBit_and]
  cases a.testBit k <;> cases m.testBit k <;> rfl
theorem tb_and_pn {x y : Int} {k : Nat} (hx : 0 ≤ x) (hy : ¬ 0 ≤ y) : tb (Builtin.bitAnd x y) k = (tb x k && tb y k) := by
  have hl : x.toNat &&& (Builtin.bitNot y).toNat ≤ x.toNat := Nat.and_le_left
  rw [bitAnd_pn hx hy, tb_pos hx, tb_neg hy, tb_pos (by omega), show (x - ((x.toNat &&& (Builtin.bitNot y).toNat : Nat) : Int)).toNat = x.toNat - (x.toNat &&& (Builtin.bitNot y).toNat) by omega, sub_and]
theorem tb_and (x y : Int) (k : Nat) : tb (Builtin.bitAnd x y) k = (tb x k && tb y k) := by
  by_cases hx : 0 ≤ x <;> by_cases hy : 0 ≤ y
  · rw [bitAnd_pp hx hy, tb_nat, tb_pos hx, tb_pos hy, Nat.testBit_and]
  · exact tb_and_pn hx hy
  · rw [bitAnd_comm, tb_and_pn hy hx, Bool.and_comm]
  · rw [bitAnd_nn hx hy, tb_not, tb_nat, tb_neg hx, tb_neg hy, Nat.testBit_or, Bool.not_or]
theorem tb_or (x y : Int) (k : Nat) : tb (Builtin.bitOr x y) k = (tb x k || tb y k) := by
  unfold Builtin.bitOr
  rw [tb_not, tb_and, tb_not, tb_not, Bool.not_and, Bool.not_not, Bool.not_not]
theorem xor_nat (a b : Nat) : Builtin.bitXor (a : Int) (b : Int) = ((a ^^^ b : Nat) : Int) := by
  have h1 := nat_or_add_and (a ^^^ b) (a &&& b)
  have h2 : (a ^^^ b) ||| (a &&& b) = a ||| b := Nat.eq_of_testBit_eq fun i => by
    simp only [Nat.testBit_or, Nat.testBit_xor, Nat.testBit_and]
    cases a.testBit i <;> cases b.testBit i <;> rfl
  have h3 : (a ^^^ b) &&& (a &&& b) = 0 := Nat.eq_of_testBit_eq fun i => by
    simp only [Nat.testBit_xor, Nat.testBit_and, Nat.zero_testBit]
    cases a.testBit i <;> cases b.testBit i <;> rfl
  have h4 := nat_or_add_and a b
  rw [bitXor_and, bitAnd_pp (by omega) (by omega), Int.toNat_natCast, Int.toNat_natCast]
  omega
theorem nn_tb {x : Int} {m : Nat} (h : ∀ k, m ≤ k → tb x k = false) : 0 ≤ x := by
  by_cases hx : 0 ≤ x
  · exact hx
  · exfalso
    have hk := Nat.lt_two_pow_self (n := (Builtin.bitNot x).toNat + m)
    have := h ((Builtin.bitNot x).toNat + m) (by omega)
    rw [tb_neg hx, Nat.testBit_lt_two_pow (by omega)] at this
    cases this
theorem ext_tb {x y : Int} (hx : 0 ≤ x) (hy : 0 ≤ y) (h : ∀ k, tb x k = tb y k) : x = y := by
  have : x.toNat = y.toNat := Nat.eq_of_testBit_eq fun i => by
    have := h i
    rwa [tb_pos hx, tb_pos hy] at this
  omega
/-- the number whose n lowest bits are told -/
def bn : Nat → (Nat → Bool) → Nat
  | 0, _ => 0
  | n + 1, f => bn n f ||| (if f n then 2 ^ n else 0)
theorem bn_not {n : Nat} {f : Nat → Bool} (h : f n = false) : bn (n + 1) f = bn n f := by
  rw [bn, h, if_neg Bool.false_ne_true, Nat.or_zero]
theorem bn_bit (f : Nat → Bool) (k : Nat) : ∀ n, (bn n f).testBit k = (decide (k < n) && f k)
  | 0 => by rw [bn, Nat.zero_testBit]; rfl
  | n + 1 => by
    rw [bn, Nat.testBit_or, bn_bit f k n]
    by_cases e : k = n
    · subst e
      cases f k <;> simp
    · have h1 : decide (k < n + 1) = decide (k < n) := decide_eq_decide.mpr (by omega)
      have h2 : (if f n = true then 2 ^ n else 0).testBit k = false := by
        split
        · rw [Nat.testBit_two_pow]; exact decide_eq_false fun z => e z.symm
        · exact Nat.zero_testBit k
      rw [h1, h2, Bool.or_false]
theorem bn_lt (n : Nat) (f : Nat → Bool) : bn n f < 2 ^ n := Nat.lt_pow_two_of_testBit _ fun i hi => by rw [bn_bit, decide_eq_false (by omega)]; rfl
theorem of_tb {x : Int} (n : Nat) (f : Nat → Bool) (h : ∀ k, tb x k = (decide (k < n) && f k)) : x = (bn n f : Int) :=
  ext_tb (nn_tb (m := n) fun k hk => by rw [h, decide_eq_false (by omega)]; rfl) (by omega) fun k => by rw [h, tb_nat, bn_bit]
theorem bn_congr {n : Nat} {f g : Nat → Bool} (h : ∀ k, k < n → f k = g k) : bn n f = bn n g := Nat.eq_of_testBit_eq fun i => by
  rw [bn_bit, bn_bit]
  by_cases e : i < n
  · rw [h i e]
  · rw [decide_eq_false e]; rfl
/-- the carries -/
def ov (n : Nat) (eq pv : Nat → Bool) : Nat → Bool
  | 0 => decide (0 < n) && eq 0
  | k + 1 => (decide (k + 1 < n) && eq (k + 1)) || ((decide (k < n) && pv k) && ov n eq pv k)
theorem over_tb (n : Nat) (eq pv : Nat → Bool) (k : Nat) :
    tb (Builtin.bitOr (Builtin.bitXor (Builtin.bitAnd (bn n eq : Int) (bn n pv : Int) + (bn n pv : Int)) (bn n pv : Int)) (bn n eq : Int)) k = ov n eq pv k := by
  have ha : Builtin.bitAnd (bn n eq : Int) (bn n pv : Int) = ((bn n eq &&& bn n pv : Nat) : Int) := by rw [bitAnd_pp (by omega) (by omega), Int.toNat_natCast, Int.toNat_natCast]
  rw [ha, show ((bn n eq &&& bn n pv : Nat) : Int) + (bn n pv : Int) = ((bn n eq &&& bn n pv) + bn n pv : Nat) by omega, xor_nat, tb_or, tb_nat, tb_nat, Nat.testBit_xor]
  have hw1 : bn n eq &&& bn n pv < 2 ^ n := Nat.and_lt_two_pow _ (bn_lt n pv)
  have hw2 := bn_lt n pv
  have e2 : (2 : Nat) ^ (n + k + 1) = 2 ^ n * 2 ^ (k + 1) := by rw [Nat.add_assoc, Nat.pow_add]
  have e3 : 2 ≤ 2 ^ (k + 1) := by rw [Nat.pow_succ]; have := Nat.one_le_two_pow (n := k); omega
  have e4 : 2 ^ n * 2 ≤ 2 ^ (n + k + 1) := by rw [e2]; exact Nat.mul_le_mul_left _ e3
  have sum : ((bn n eq &&& bn n pv) + bn n pv).testBit k = ((bn n eq &&& bn n pv).testBit k ^^ ((bn n pv).testBit k ^^ BitVec.carry k (BitVec.ofNat (n + k + 1) (bn n eq &&& bn n pv)) (BitVec.ofNat (n + k + 1) (bn n pv)) false)) := by
    have := BitVec.getLsbD_add (w := n + k + 1) (i := k) (by omega) (BitVec.ofNat (n + k + 1) (bn n eq &&& bn n pv)) (BitVec.ofNat (n + k + 1) (bn n pv))
    rw [← BitVec.ofNat_add] at this
    simp only [BitVec.getLsbD_ofNat, decide_eq_true (show k < n + k + 1 by omega), Bool.true_and] at this
    exact this
  have car : ∀ j, j ≤ k → BitVec.carry j (BitVec.ofNat (n + k + 1) (bn n eq &&& bn n pv)) (BitVec.ofNat (n + k + 1) (bn n pv)) false = match j with | 0 => false | i + 1 => (decide (i < n) && pv i) && ov n eq pv i := by
    intro j
    induction j with
    | zero => intro _; rw [BitVec.carry_zero]
    | succ i ih =>
      intro hi
      have ih := ih (by omega)
      rw [BitVec.carry_succ, ih]
      simp only [BitVec.getLsbD_ofNat, decide_eq_true (show i < n + k + 1 by omega), Bool.true_and, Nat.testBit_and, bn_bit]
      cases i with
      | zero =>
        unfold ov Bool.atLeastTwo
        cases decide (0 < n) <;> cases eq 0 <;> cases pv 0 <;> rfl
      | succ i =>
        rw [ov]
        show Bool.atLeastTwo _ _ ((decide (i < n) && pv i) && ov n eq pv i) = _
        unfold Bool.atLeastTwo
        cases decide (i + 1 < n) <;> cases eq (i + 1) <;> cases pv (i + 1) <;> cases ((decide (i < n) && pv i) && ov n eq pv i) <;> rfl
  rw [sum, car k (Nat.le_refl k), Nat.testBit_and, bn_bit, bn_bit]
  cases k with
  | zero =>
    unfold ov
    cases decide (0 < n) <;> cases eq 0 <;> cases pv 0 <;> rfl
  | succ i =>
    rw [ov]
    dsimp only
    generalize ((decide (i < n) && pv i) && ov n eq pv i) = c
    cases decide (i + 1 < n) <;> cases eq (i + 1) <;> cases pv (i + 1) <;> cases c <;> rfl
theorem high_bit {n : Nat} (hn : 0 < n) (f : Nat → Bool) : decide ((0 : Int) < Builtin.bitAnd (bn n f : Int) ((2 ^ (n - 1) : Nat) : Int)) = f (n - 1) := by
  rw [bitAnd_pp (Int.natCast_nonneg _) (Int.natCast_nonneg _), Int.toNat_natCast, Int.toNat_natCast]
  cases hf : f (n - 1) with
  | true =>
    refine decide_eq_true ?_
    have : bn n f &&& 2 ^ (n - 1) ≠ 0 := fun z => by
      have h2 : (bn n f &&& 2 ^ (n - 1)).testBit (n - 1) = true := by rw [Nat.testBit_and, bn_bit, decide_eq_true (by omega), hf, Nat.testBit_two_pow, decide_eq_true rfl]; rfl
      rw [z, Nat.zero_testBit] at h2
      cases h2
    omega
  | false =>
    refine decide_eq_false ?_
    have : bn n f &&& 2 ^ (n - 1) = 0 := Nat.eq_of_testBit_eq fun i => by
      rw [Nat.testBit_and, Nat.testBit_two_pow, Nat.zero_testBit]
      by_cases e : n - 1 = i
      · rw [← e, bn_bit, hf]; simp
      · rw [decide_eq_false e, Bool.and_false]
    rw [this]
    decide
theorem rises_eq (n : Nat) (eq pv mv : Nat → Bool) {o : Int} (ho : ∀ k, tb o k = ov n eq pv k) : Builtin.bitOr (bn n mv : Int) (Builtin.bitAnd ((2 ^ n - 1 : Nat) : Int) (Builtin.bitNot (Builtin.bitOr o (bn n pv : Int)))) = (bn n fun k => mv k || !(ov n eq pv k || pv k) : Int) :=
  of_tb n _ fun k => by
    rw [tb_or, tb_and, tb_not, tb_or, ho, tb_nat, tb_nat, tb_nat, bn_bit, bn_bit, Nat.testBit_two_pow_sub_one]
    cases decide (k < n) <;> cases mv k <;> cases pv k <;> cases ov n eq pv k <;> rfl
theorem falls_eq (n : Nat) (eq pv : Nat → Bool) {o : Int} (ho : ∀ k, tb o k = ov n eq pv k) : Builtin.bitAnd (bn n pv : Int) o = (bn n fun k => pv k && ov n eq pv k : Int) :=
  of_tb n _ fun k => by
    rw [tb_and, ho, tb_nat, bn_bit]
    cases decide (k < n) <;> cases pv k <;> cases ov n eq pv k <;> rfl
theorem tb_dbl (a k : Nat) : tb ((a : Int) * 2 ^ (1 : Int).toNat) k = match k with | 0 => false | j + 1 => a.testBit j := by
  rw [show (a : Int) * 2 ^ (1 : Int).toNat = ((a * 2 ^ 1 : Nat) : Int) by rw [show (1 : Int).toNat = 1 from rfl]; omega, tb_nat, Nat.testBit_mul_two_pow]
  cases k with
  | zero => rfl
  | succ j => simp
/-- what stood one place below -/
def sh (b : Bool) (f : Nat → Bool) : Nat → Bool
  | 0 => b
  | k + 1 => f k
theorem tb_b2 (b : Bool) (k : Nat) : tb (if b = true then 1 else 0) k = match k with | 0 => b | _ + 1 => false := by
  cases b with
  | true =>
    rw [if_pos rfl, show (1 : Int) = ((1 : Nat) : Int) from rfl, tb_nat]
    cases k with
    | zero => rfl
    | succ j => rw [show (1 : Nat) = 2 ^ 0 from rfl, Nat.testBit_two_pow]; exact decide_eq_false (by omega)
  | false =>
    rw [if_neg Bool.false_ne_true, show (0 : Int) = ((0 : Nat) : Int) from rfl, tb_nat, Nat.zero_testBit]
    cases k <;> rfl
theorem more_eq (n : Nat) (dn r fl : Nat → Bool) (b : Bool) {d rs : Int} (hd : ∀ k, k < n → tb d k = dn k) (hr : ∀ k, k < n → tb rs k = sh b r k) :
    Builtin.bitAnd (Builtin.bitOr ((bn n fl : Int) * 2 ^ (1 : Int).toNat) (Builtin.bitNot (Builtin.bitOr d rs))) ((2 ^ n - 1 : Nat) : Int) = (bn n fun k => sh false fl k || !(dn k || sh b r k) : Int) :=
  of_tb n _ fun k => by
    rw [tb_and, tb_nat, Nat.testBit_two_pow_sub_one]
    by_cases hk : k < n
    · rw [decide_eq_true hk, Bool.and_true, Bool.true_and, tb_or, tb_not, tb_or, hd k hk, hr k hk, tb_dbl]
      cases k with
      | zero => rfl
      | succ j => dsimp only; rw [bn_bit, decide_eq_true (by omega)]; rfl
    · rw [decide_eq_false hk, Bool.and_false, Bool.false_and]
theorem less_eq (n : Nat) (dn r : Nat → Bool) (b : Bool) {d rs : Int} (hd : ∀ k, k < n → tb d k = dn k) (hr : ∀ k, k < n → tb rs k = sh b r k) :
    Builtin.bitAnd (Builtin.bitAnd rs d) ((2 ^ n - 1 : Nat) : Int) = (bn n fun k => sh b r k && dn k : Int) :=
  of_tb n _ fun k => by
    rw [tb_and, tb_nat, Nat.testBit_two_pow_sub_one]
    by_cases hk : k < n
    · rw [decide_eq_true hk, Bool.and_true, Bool.true_and, tb_and, hd k hk, hr k hk]
    · rw [decide_eq_false hk, Bool.and_false, Bool.false_and]
theorem rs_tb (n : Nat) (r : Nat → Bool) (b : Bool) (k : Nat) (hk : k < n) : tb (Builtin.bitOr ((bn n r : Int) * 2 ^ (1 : Int).toNat) (if b = true then 1 else 0)) k = sh b r k := by
  rw [tb_or, tb_dbl, tb_b2]
  cases k with
  | zero => rfl
  | succ j => dsimp only; rw [bn_bit, decide_eq_true (by omega)]; simp [sh]
theorem dn_tb (n : Nat) (eq mv : Nat → Bool) (k : Nat) (hk : k < n) : tb (Builtin.bitOr (bn n eq : Int) (bn n mv : Int)) k = (eq k || mv k) := by
  rw [tb_or, tb_nat, tb_nat, bn_bit, bn_bit, decide_eq_true hk]
  rfl
/-! ### columns of distances -/
def e1 (b : Bool) : Int := if b then 1 else 0
def nxt (eq : Nat → Bool) (h0 : Int) (D : Nat → Int) : Nat → Int
  | 0 => D 0 + h0
  | i + 1 => min (min (D i + 1 - e1 (eq i)) (D (i + 1) + 1)) (nxt eq h0 D i + 1)
/-- the bits tell the differences -/
def Vd (n : Nat) (D : Nat → Int) (pv mv : Nat → Bool) : Prop := ∀ i, i < n → D (i + 1) = D i + e1 (pv i) - e1 (mv i) ∧ ¬ (pv i = true ∧ mv i = true)
theorem e1_t : e1 true = 1 := rfl
theorem e1_f : e1 false = 0 := rfl
theorem step_h {n : Nat} {D : Nat → Int} {eq pv mv : Nat → Bool} {b : Bool} (hV : Vd n D pv mv) : ∀ i, i < n →
    (nxt eq (e1 b) D (i + 1) - D (i + 1) = e1 (mv i || !(ov n eq pv i || pv i)) - e1 (pv i && ov n eq pv i)) ∧
    (nxt eq (e1 b) D i - D i = e1 (sh b (fun k => mv k || !(ov n eq pv k || pv k)) i) - e1 (sh false (fun k => pv k && ov n eq pv k) i)) := by
  intro i
  induction i with
  | zero =>
    intro hi
    obtain ⟨h1, h2⟩ := hV 0 hi
    have hb : nxt eq (e1 b) D 0 - D 0 = e1 b - e1 false := by show D 0 + e1 b - D 0 = _; rw [e1_f]; omega
    refine ⟨?_, hb⟩
    show min (min (D 0 + 1 - e1 (eq 0)) (D 1 + 1)) (D 0 + e1 b + 1) - D 1 = _
    have ho : ov n eq pv 0 = eq 0 := by unfold ov; rw [decide_eq_true hi]; rfl
    rw [ho]
    revert h2
    have h1 : D 1 = D 0 + e1 (pv 0) - e1 (mv 0) := h1
    revert h1
    generalize D 1 = D1
    cases eq 0 <;> cases pv 0 <;> cases mv 0 <;> cases b <;> simp only [e1_t, e1_f, Bool.and_self, Bool.or_self, Bool.and_true, Bool.and_false, Bool.true_and, Bool.false_and, Bool.or_true, Bool.or_false, Bool.true_or, Bool.false_or, Bool.not_true, Bool.not_false] <;> intro h1 h2 <;> first | omega | (exfalso; revert h2; simp; done)
  | succ i ih =>
    intro hi
    obtain ⟨g1, g2⟩ := ih (by omega)
    obtain ⟨h1, h2⟩ := hV (i + 1) hi
    refine ⟨?_, g1⟩
    show min (min (D (i + 1) + 1 - e1 (eq (i + 1))) (D (i + 2) + 1)) (nxt eq (e1 b) D (i + 1) + 1) - D (i + 2) = _
    have ho : ov n eq pv (i + 1) = (eq (i + 1) || (pv i && ov n eq pv i)) := by rw [ov, decide_eq_true hi, decide_eq_true (show i < n by omega)]; rfl
    rw [ho]
    have hx : ¬ (pv i = true ∧ mv i = true) := (hV i (by omega)).2
    have hd : ¬ ((mv i || !(ov n eq pv i || pv i)) = true ∧ (pv i && ov n eq pv i) = true) := by
      revert hx
      cases pv i <;> cases mv i <;> cases ov n eq pv i <;> decide
    have h1 : D (i + 2) = D (i + 1) + e1 (pv (i + 1)) - e1 (mv (i + 1)) := h1
    revert hd
    revert g1
    revert h2
    revert h1
    generalize (mv i || !(ov n eq pv i || pv i)) = r
    generalize (pv i && ov n eq pv i) = f
    generalize nxt eq (e1 b) D (i + 1) = N
    generalize D (i + 2) = D2
    cases eq (i + 1) <;> cases pv (i + 1) <;> cases mv (i + 1) <;> cases r <;> cases f <;> simp only [e1_t, e1_f, Bool.and_self, Bool.or_self, Bool.and_true, Bool.and_false, Bool.true_and, Bool.false_and, Bool.or_true, Bool.or_false, Bool.true_or, Bool.false_or, Bool.not_true, Bool.not_false] <;> intro h1 h2 g1 hd <;> first | omega | (exfalso; revert h2; simp; done) | (exfalso; revert hd; simp; done)
theorem step_v {n : Nat} {D : Nat → Int} {eq pv mv : Nat → Bool} {b : Bool} (hV : Vd n D pv mv) :
    Vd n (nxt eq (e1 b) D) (fun k => sh false (fun k => pv k && ov n eq pv k) k || !((eq k || mv k) || sh b (fun k => mv k || !(ov n eq pv k || pv k)) k)) (fun k => sh b (fun k => mv k || !(ov n eq pv k || pv k)) k && (eq k || mv k)) := by
  intro i hi
  obtain ⟨h1, h2⟩ := hV i hi
  obtain ⟨_, g2⟩ := step_h (eq := eq) (b := b) hV i hi
  have hd : ¬ (sh b (fun k => mv k || !(ov n eq pv k || pv k)) i = true ∧ sh false (fun k => pv k && ov n eq pv k) i = true) := by
    cases i with
    | zero => exact fun z => nomatch z.2
    | succ i =>
      have hx := (hV i (by omega)).2
      show ¬ ((mv i || !(ov n eq pv i || pv i)) = true ∧ (pv i && ov n eq pv i) = true)
      revert hx
      cases pv i <;> cases mv i <;> cases ov n eq pv i <;> decide
  show min (min (D i + 1 - e1 (eq i)) (D (i + 1) + 1)) (nxt eq (e1 b) D i + 1) = _ ∧ _
  dsimp only
  revert hd
  revert g2
  generalize sh b (fun k => mv k || !(ov n eq pv k || pv k)) i = r
  generalize sh false (fun k => pv k && ov n eq pv k) i = f
  generalize nxt eq (e1 b) D i = N
  revert h1 h2
  cases eq i <;> cases pv i <;> cases mv i <;> cases r <;> cases f <;> simp only [e1_t, e1_f, Bool.and_self, Bool.or_self, Bool.and_true, Bool.and_false, Bool.true_and, Bool.false_and, Bool.or_true, Bool.or_false, Bool.true_or, Bool.false_or, Bool.not_true, Bool.not_false] <;> intro h1 h2 g1 hd <;> first | (exfalso; revert h2; simp; done) | (exfalso; revert hd; simp; done) | (refine ⟨?_, ?_⟩; (· omega); (· simp; done))
end My

namespace My
open Mi
/-! ### distances, column by column -/
def eqs (rd tx : List Nat) (j : Nat) (i : Nat) : Bool := agr (rd.getD i 0) (tx.getD j 0)
/-- the column j -/
def col (b : Bool) (rd tx : List Nat) : Nat → Nat → Int
  | 0 => fun i => (i : Int)
  | j + 1 => nxt (eqs rd tx j) (e1 b) (col b rd tx j)
theorem nxt_congr {e e' : Nat → Bool} {h : Int} {D : Nat → Int} : ∀ {i : Nat}, (∀ k, k < i → e k = e' k) → nxt e h D i = nxt e' h D i
  | 0, _ => rfl
  | i + 1, hk => by
    rw [nxt, nxt, hk i (Nat.lt_succ_self i), nxt_congr fun k hk' => hk k (by omega)]
theorem col_top (rd tx : List Nat) : ∀ j, col true rd tx j 0 = (j : Int)
  | 0 => rfl
  | j + 1 => by
    show col true rd tx j 0 + 1 = _
    rw [col_top rd tx j]
    omega
theorem col_zero (rd tx : List Nat) : ∀ j, col false rd tx j 0 = 0
  | 0 => rfl
  | j + 1 => by
    show col false rd tx j 0 + 0 = _
    rw [col_zero rd tx j]
    rfl
theorem agr_comm (a b : Nat) : agr a b = agr b a := by
  unfold agr
  by_cases h : a = b
  · rw [h]
  · rw [decide_eq_false h, decide_eq_false (show ¬ b = a from fun z => h z.symm)]
    rfl
theorem col_swap (rd tx : List Nat) : ∀ j i, col true rd tx j i = col true tx rd i j
  | 0, i => (col_top tx rd i).symm
  | j + 1, 0 => col_top rd tx (j + 1)
  | j + 1, i + 1 => by
    have h1 := col_swap rd tx j i
    have h2 := col_swap rd tx j (i + 1)
    have h3 := col_swap rd tx (j + 1) i
    show min (min (col true rd tx j i + 1 - e1 (agr (rd.getD i 0) (tx.getD j 0))) (col true rd tx j (i + 1) + 1)) (col true rd tx (j + 1) i + 1) =
      min (min (col true tx rd i j + 1 - e1 (agr (tx.getD j 0) (rd.getD i 0))) (col true tx rd i (j + 1) + 1)) (col true tx rd (i + 1) j + 1)
    rw [h1, h2, h3, agr_comm]
    omega
termination_by j i => j + i
/-- the object that walks through the columns -/
def St (b : Bool) (rd tx : List Nat) (j : Nat) (s : Int × Int × Int × Int × Int × Int × List (List Nat × Int) × Unit) : Prop :=
  ∃ (pv mv : Nat → Bool) (m : List (List Nat × Int)), Vd rd.length (col b rd tx j) pv mv ∧ (∀ c, (mget m [c]).getD 0 = (bn rd.length (fun k => agr (rd.getD k 0) c) : Int)) ∧
    s = (col b rd tx j rd.length, (bn rd.length mv : Int), (bn rd.length pv : Int), (if b = true then 1 else 0), ((2 ^ (rd.length - 1) : Nat) : Int), ((2 ^ rd.length - 1 : Nat) : Int), m, ())
end My

namespace Lw
open PySem PySem.Spec PyProof.Rows L2 Fw Mi
section
variable {P : Program} {w : World} {K : PySem.W.Frag} {mg : Str → Option Value} {base : Heap}
noncomputable def m_Column_read_letter (self : (Int × Int × Int × Int × Int × Int × (List ((List Nat) × Int)) × Unit)) (letter : (List Nat)) : Option ((Int × Int × Int × Int × Int × Int × (List ((List Nat) × Int)) × Unit) × Int) := finZ (κ := Unit) (ρ := Unit) (let same := ((mget self.2.2.2.2.2.2.1 letter).getD (0 : Int)); let down := (Builtin.bitOr same self.2.1); let over := (Builtin.bitOr (Builtin.bitXor ((Builtin.bitAnd same self.2.2.1) + self.2.2.1) self.2.2.1) same); let rises := (Builtin.bitOr self.2.1 (Builtin.bitAnd self.2.2.2.2.2.1 (Builtin.bitNot (Builtin.bitOr over self.2.2.1)))); let falls := (Builtin.bitAnd self.2.2.1 over); rb (if (decide ((0 : Int) < (Builtin.bitAnd rises self.2.2.2.2.1))) = true then (let o1 := (self.1 + (1 : Int), self.2); some (.nxt (o1, letter, same, down, over, rises, falls, ()))) else (some (.nxt (self, letter, same, down, over, rises, falls, ())))) fun γ => let self := γ.1; let letter := γ.2.1; let same := γ.2.2.1; let down := γ.2.2.2.1; let over := γ.2.2.2.2.1; let rises := γ.2.2.2.2.2.1; let falls := γ.2.2.2.2.2.2.1; rb (if (decide ((0 : Int) < (Builtin.bitAnd falls self.2.2.2.2.1))) = true then (let o2 := (self.1 - (1 : Int), self.2); some (.nxt (o2, letter, same, down, over, rises, falls, ()))) else (some (.nxt (self, letter, same, down, over, rises, falls, ())))) fun γ => let self := γ.1; let down := γ.2.2.2.1; let rises := γ.2.2.2.2.2.1; let falls := γ.2.2.2.2.2.2.1; ob (ob (pck (PShl rises (1 : Int)) (rises * 2 ^ ((1 : Int)).toNat)) fun x3 => some (Builtin.bitOr x3 self.2.2.2.1)) fun rises => ob (pck (PShl falls (1 : Int)) (falls * 2 ^ ((1 : Int)).toNat)) fun falls => let o4 := (self.1, self.2.1, (Builtin.bitAnd (Builtin.bitOr falls (Builtin.bitNot (Builtin.bitOr down rises))) self.2.2.2.2.2.1), self.2.2.2); let o5 := (o4.1, (Builtin.bitAnd (Builtin.bitAnd rises down) o4.2.2.2.2.2.1), o4.2.2); rb (some (.ret (o5, o5.1))) fun γ => some (.nxt γ))
abbrev sp_Column_read_letter (K : PySem.W.Frag) : Sp := spZ (aC jS aN) (sI (He.ga K "Column") (fdC "score" (sF jI) (fdC "less" (sF jI) (fdC "more" (sF jI) (fdC "first" (sF jI) (fdC "highest" (sF jI) (fdC "full" (sF jI) (fdC "masks" (sF (jM kyS jI)) fdN)))))))) (sI (He.ga K "Column") (fdC "score" (sF jI) (fdC "less" (sF jI) (fdC "more" (sF jI) (fdC "first" (sF jI) (fdC "highest" (sF jI) (fdC "full" (sF jI) (fdC "masks" (sF (jM kyS jI)) fdN)))))))) (sF jI) (fun x γ => m_Column_read_letter x γ.1)
theorem ok_Column_read_letter (T : Tx w K mg) : Dn P w K mg base 1 (He.ma K (He.ga K "Column") "read_letter") ["self", "letter"] (sp_Column_read_letter K) := by
  refine dn_mk T.d_Column_read_letter sc_Column_read_letter (fun _ _ _ _ _ _ us hl => match us, hl with | [_, _], _ => rfl) (spZ_len (an_C an_0)) fun cdv A outer s H vs Q E hr h => ?_
  refine ⟨_, (pss_cons (ps_set (i := 2) sc_Column_read_letter.nd rfl (.inl rfl) (pe_dget2 (hu_of hr) (pe_fld (pv 0) rfl) (pv 1) pe_int ⟨rfl, rfl, rfl, rfl⟩))
      (pss_cons (ps_set (i := 3) sc_Column_read_letter.nd rfl (.inl rfl) (pe_op op_or (pv 2) (pe_fld (pv 0) rfl)))
      (pss_cons (ps_set (i := 4) sc_Column_read_letter.nd rfl (.inl rfl) (pe_op op_or (pe_op op_xor (pe_op op_add (pe_op op_and (pv 2) (pe_fld (pv 0) rfl)) (pe_fld (pv 0) rfl)) (pe_fld (pv 0) rfl)) (pv 2)))
      (pss_cons (ps_set (i := 5) sc_Column_read_letter.nd rfl (.inl rfl) (pe_op op_or (pe_fld (pv 0) rfl) (pe_op op_and (pe_fld (pv 0) rfl) (pe_un un_inv (pe_op op_or (pv 4) (pe_fld (pv 0) rfl))))))
      (pss_cons (ps_set (i := 6) sc_Column_read_letter.nd rfl (.inl rfl) (pe_op op_and (pe_fld (pv 0) rfl) (pv 4)))
      (pss_cons (ps_if (pt_cmpR op_gt (pe_op op_and (pv 5) (pe_fld (pv 0) rfl)) pe_int (nomark _))
      (pss_cons (ps_fldaug (pv 0) pe_int in_add)
      pss_nil)
      pss_nil)
      (pss_cons (ps_if (pt_cmpR op_gt (pe_op op_and (pv 6) (pe_fld (pv 0) rfl)) pe_int (nomark _))
      (pss_cons (ps_fldaug (pv 0) pe_int in_sub)
      pss_nil)
      pss_nil)
      (pss_cons (ps_set (i := 5) sc_Column_read_letter.nd rfl (.inl rfl) (pe_op op_or (pe_op op_shlW (pv 5) pe_int) (pe_fld (pv 0) rfl)))
      (pss_cons (ps_set (i := 6) sc_Column_read_letter.nd rfl (.inl rfl) (pe_op op_shlW (pv 6) pe_int))
      (pss_cons (ps_fld (pv 0) (pe_op op_and (pe_op op_or (pv 6) (pe_un un_inv (pe_op op_or (pv 3) (pv 5)))) (pe_fld (pv 0) rfl)) rfl)
      (pss_cons (ps_fld (pv 0) (pe_op op_and (pe_op op_and (pv 5) (pv 3)) (pe_fld (pv 0) rfl)) rfl)
      (pss_cons (ps_ret (pe_fld (pv 0) rfl))
      pss_nil)))))))))))), ?_⟩
  refine finZ_runX (E0 := fun pp => (eC (sIA pp (He.ga K "Column") (fdC "score" (sF jI) (fdC "less" (sF jI) (fdC "more" (sF jI) (fdC "first" (sF jI) (fdC "highest" (sF jI) (fdC "full" (sF jI) (fdC "masks" (sF (jM kyS jI)) fdN)))))))) (eC (sF jS) (eU (eU (eU (eU (eU eN)))))))) (E1 := eN) (T := (fdC "score" (sF jI) (fdC "less" (sF jI) (fdC "more" (sF jI) (fdC "first" (sF jI) (fdC "highest" (sF jI) (fdC "full" (sF jI) (fdC "masks" (sF (jM kyS jI)) fdN)))))))) (T2 := (fdC "score" (sF jI) (fdC "less" (sF jI) (fdC "more" (sF jI) (fdC "first" (sF jI) (fdC "highest" (sF jI) (fdC "full" (sF jI) (fdC "masks" (sF (jM kyS jI)) fdN)))))))) (j := fun γ => γ) (fun pp {F vs L x γ} r1 r2 => aze (ae_C (ae_U rfl (ae_U rfl (ae_U rfl (ae_U rfl (ae_U rfl ae_0)))))) pp r1 r2) (an_C an_0) rfl ?S h rfl
  exact fun pp => ⟨_, (ss_asg (se_dget2 (sr_of (se_fldO T.c_Column T.n_Column_masks (gIA g0) (fgS (fgS (fgS (fgS (fgS (fgS fg0)))))))) (se_var (gS g0)) se_int scI) (pS (pS p0U)) (ss_asg (se_op (se_var (gS (gS g0))) (se_fldO T.c_Column T.n_Column_less (gIA g0) (fgS fg0)) (s2_I0 (f := fun i j => Builtin.bitOr i j))) (pS (pS (pS p0U))) (ss_asg (se_op (se_op (se_op (se_op (se_var (gS (gS g0))) (se_fldO T.c_Column T.n_Column_more (gIA g0) (fgS (fgS fg0))) (s2_I0 (f := fun i j => Builtin.bitAnd i j))) (se_fldO T.c_Column T.n_Column_more (gIA g0) (fgS (fgS fg0))) (s2_I0 (f := fun i j => i + j))) (se_fldO T.c_Column T.n_Column_more (gIA g0) (fgS (fgS fg0))) (s2_I0 (f := fun i j => Builtin.bitXor i j))) (se_var (gS (gS g0))) (s2_I0 (f := fun i j => Builtin.bitOr i j))) (pS (pS (pS (pS p0U)))) (ss_asg (se_op (se_fldO T.c_Column T.n_Column_less (gIA g0) (fgS fg0)) (se_op (se_fldO T.c_Column T.n_Column_full (gIA g0) (fgS (fgS (fgS (fgS (fgS fg0)))))) (se_un (se_op (se_var (gS (gS (gS (gS g0))))) (se_fldO T.c_Column T.n_Column_more (gIA g0) (fgS (fgS fg0))) (s2_I0 (f := fun i j => Builtin.bitOr i j))) (s1_U (f := fun i => Builtin.bitNot i))) (s2_I0 (f := fun i j => Builtin.bitAnd i j))) (s2_I0 (f := fun i j => Builtin.bitOr i j))) (pS (pS (pS (pS (pS p0U))))) (ss_asg (se_op (se_fldO T.c_Column T.n_Column_more (gIA g0) (fgS (fgS fg0))) (se_var (gS (gS (gS (gS g0))))) (s2_I0 (f := fun i j => Builtin.bitAnd i j))) (pS (pS (pS (pS (pS (pS p0U)))))) (ss_seq (ss_if (st_test (se_op (se_op (se_var (gS (gS (gS (gS (gS g0)))))) (se_fldO T.c_Column T.n_Column_highest (gIA g0) (fgS (fgS (fgS (fgS fg0))))) (s2_I0 (f := fun i j => Builtin.bitAnd i j))) se_int (s2_C0 (f := fun i j => decide (j < i))))) (ss_fldAug (h := fun i j => i + j) T.c_Column T.n_Column_score se_int y0 (fx0 (by show _ ∉ (["less", "more", "first", "highest", "full", "masks"] : List Str); decide +kernel)) ss_nil (by show (["score", "less", "more", "first", "highest", "full", "masks"] : List Str).length < 1000; decide)) ss_nil) (ss_seq (ss_if (st_test (se_op (se_op (se_var (gS (gS (gS (gS (gS (gS g0))))))) (se_fldO T.c_Column T.n_Column_highest (gIA g0) (fgS (fgS (fgS (fgS fg0))))) (s2_I0 (f := fun i j => Builtin.bitAnd i j))) se_int (s2_C0 (f := fun i j => decide (j < i))))) (ss_fldAug (h := fun i j => i - j) T.c_Column T.n_Column_score se_int y0 (fx0 (by show _ ∉ (["less", "more", "first", "highest", "full", "masks"] : List Str); decide +kernel)) ss_nil (by show (["score", "less", "more", "first", "highest", "full", "masks"] : List Str).length < 1000; decide)) ss_nil) (ss_asg (se_op (se_op (se_var (gS (gS (gS (gS (gS g0)))))) se_int s2_shl) (se_fldO T.c_Column T.n_Column_first (gIA g0) (fgS (fgS (fgS fg0)))) (s2_I0 (f := fun i j => Builtin.bitOr i j))) (pS (pS (pS (pS (pS p0))))) (ss_asg (se_op (se_var (gS (gS (gS (gS (gS (gS g0))))))) se_int s2_shl) (pS (pS (pS (pS (pS (pS p0)))))) (ss_fldS T.c_Column T.n_Column_more (se_op (se_op (se_var (gS (gS (gS (gS (gS (gS g0))))))) (se_un (se_op (se_var (gS (gS (gS g0)))) (se_var (gS (gS (gS (gS (gS g0)))))) (s2_I0 (f := fun i j => Builtin.bitOr i j))) (s1_U (f := fun i => Builtin.bitNot i))) (s2_I0 (f := fun i j => Builtin.bitOr i j))) (se_fldO T.c_Column T.n_Column_full (gIA g0) (fgS (fgS (fgS (fgS (fgS fg0)))))) (s2_I0 (f := fun i j => Builtin.bitAnd i j))) y0 (fxS (fxS (fx0 (by show _ ∉ (["first", "highest", "full", "masks"] : List Str); decide +kernel)) (by decide +kernel)) (by decide +kernel)) (ss_fldS T.c_Column T.n_Column_less (se_op (se_op (se_var (gS (gS (gS (gS (gS g0)))))) (se_var (gS (gS (gS g0)))) (s2_I0 (f := fun i j => Builtin.bitAnd i j))) (se_fldO T.c_Column T.n_Column_full (gIA g0) (fgS (fgS (fgS (fgS (fgS fg0)))))) (s2_I0 (f := fun i j => Builtin.bitAnd i j))) y0 (fxS (fx0 (by show _ ∉ (["more", "first", "highest", "full", "masks"] : List Str); decide +kernel)) (by decide +kernel)) (ss_seq (ss_retZ (se_fldO T.c_Column T.n_Column_score (gIA g0) fg0) y0) ss_nil) (by show (["score", "less", "more", "first", "highest", "full", "masks"] : List Str).length < 1000; decide)) (by show (["score", "less", "more", "first", "highest", "full", "masks"] : List Str).length < 1000; decide))))))))))), by exact rfl⟩
end
end Lw
namespace Lw
open PySem PySem.Spec PyProof.Rows L2 Fw Mi
local macro_rules | `(tactic| walk_at "m") => `(tactic| simp only [pidx_one, pinS_one, pninS_one, W_some, W_none, W_ob, W_bind, W_pck, W_rb, W_fin, W_finN, W_T, W_F, W_Tr, W_Fa, Rw_nxt, Rw_ret, Rw_cnt, Rf_ret, Rf_nxt, RfN_ret, RfN_nxt, W_finU, RfU_nxt, W_finZ, W_finZN, RfZ_nxt, lcM_id, W_obx, Xf_ok, Xf_er, W_rbx, Xr_ok, Xr_er, W_okx, W_finNX, RfNX_ret, RfNX_nxt, W_finUX, RfUX_nxt, RfUX_er, W_trx, Xt_ok, Xt_er, decide_true, decide_false, Bool.not_true, Bool.not_false])
theorem m_readletter {rd tx : List Nat} {b : Bool} {j : Nat} {s : Int × Int × Int × Int × Int × Int × List (List Nat × Int) × Unit} {Q : (Int × Int × Int × Int × Int × Int × List (List Nat × Int) × Unit) × Int → Prop} (hl : 1 ≤ rd.length ∧ rd.length ≤ 1000) (hs : My.St b rd tx j s) (c : Nat) (hc : tx.getD j 0 = c)
    (q : ∀ s', My.St b rd tx (j + 1) s' → Q (s', My.col b rd tx (j + 1) rd.length)) : W (m_Column_read_letter s [c]) Q := by
  obtain ⟨pv, mv, m, hV, hm, rfl⟩ := hs
  unfold m_Column_read_letter
  walk_at "m"
  rw [hm c]
  generalize hn : rd.length = n at *
  generalize he : (fun k => agr (rd.getD k 0) c) = eq
  have ho := My.over_tb n eq pv
  generalize Builtin.bitOr (Builtin.bitXor (Builtin.bitAnd (My.bn n eq : Int) (My.bn n pv : Int) + (My.bn n pv : Int)) (My.bn n pv : Int)) (My.bn n eq : Int) = o at ho
  rw [My.rises_eq n eq pv mv ho, My.falls_eq n eq pv ho]
  generalize hr : (fun k => mv k || !(My.ov n eq pv k || pv k)) = r
  generalize hf : (fun k => pv k && My.ov n eq pv k) = f
  have hD : My.col b rd tx (j + 1) = My.nxt eq (My.e1 b) (My.col b rd tx j) := by
    rw [← he, ← hc]
    rfl
  have hV2 := My.step_v (eq := eq) (b := b) hV
  have hH := (My.step_h (eq := eq) (b := b) hV (n - 1) (by omega)).1
  rw [show n - 1 + 1 = n by omega, ← hD] at hH
  rw [← hD] at hV2
  have hrn : (mv (n - 1) || !(My.ov n eq pv (n - 1) || pv (n - 1))) = r (n - 1) := by rw [← hr]
  have hfn : (pv (n - 1) && My.ov n eq pv (n - 1)) = f (n - 1) := by rw [← hf]
  rw [hrn, hfn] at hH
  rw [hr, hf] at hV2
  have hb1 := My.high_bit (show 0 < n by omega) r
  have hb2 := My.high_bit (show 0 < n by omega) f
  generalize hS : My.col b rd tx j n = S0 at hH
  refine W.mono (Q := fun z => z = Res.nxt ((S0 + My.e1 (r (n - 1)), (My.bn n mv : Int), (My.bn n pv : Int), (if b = true then 1 else 0), ((2 ^ (n - 1) : Nat) : Int), ((2 ^ n - 1 : Nat) : Int), m, ()), [c], (My.bn n eq : Int), Builtin.bitOr (My.bn n eq : Int) (My.bn n mv : Int), o, (My.bn n r : Int), (My.bn n f : Int), ())) ?_ ?_
  · rw [hb1]
    cases r (n - 1) with
    | true => exact ⟨_, rfl, rfl⟩
    | false => exact ⟨_, rfl, by show Res.nxt _ = Res.nxt _; rw [My.e1_f, Int.add_zero]⟩
  rintro _ rfl
  rw [Rw_nxt]
  walk_at "m"
  refine W.mono (Q := fun z => z = Res.nxt ((S0 + My.e1 (r (n - 1)) - My.e1 (f (n - 1)), (My.bn n mv : Int), (My.bn n pv : Int), (if b = true then 1 else 0), ((2 ^ (n - 1) : Nat) : Int), ((2 ^ n - 1 : Nat) : Int), m, ()), [c], (My.bn n eq : Int), Builtin.bitOr (My.bn n eq : Int) (My.bn n mv : Int), o, (My.bn n r : Int), (My.bn n f : Int), ())) ?_ ?_
  · rw [hb2]
    cases f (n - 1) with
    | true => exact ⟨_, rfl, rfl⟩
    | false => exact ⟨_, rfl, by show Res.nxt _ = Res.nxt _; rw [My.e1_f, Int.sub_zero]⟩
  rintro _ rfl
  rw [Rw_nxt]
  walk_at "m"
  refine ⟨PShl.of (My.bn_lt n r) (by omega) (by omega), PShl.of (My.bn_lt n f) (by omega) (by omega), ?_⟩
  have hd : ∀ k, k < n → My.tb (Builtin.bitOr (My.bn n eq : Int) (My.bn n mv : Int)) k = (eq k || mv k) := My.dn_tb n eq mv
  have hrs : ∀ k, k < n → My.tb (Builtin.bitOr ((My.bn n r : Int) * 2 ^ (1 : Int).toNat) (if b = true then 1 else 0)) k = My.sh b r k := My.rs_tb n r b
  rw [My.more_eq n _ r f b hd hrs, My.less_eq n _ r b hd hrs]
  have e : S0 + My.e1 (r (n - 1)) - My.e1 (f (n - 1)) = My.col b rd tx (j + 1) n := by omega
  rw [e]
  subst hn
  exact q _ ⟨_, _, m, hV2, hm, rfl⟩

end Lw
namespace Lw
open PySem PySem.Spec PyProof.Rows L2 Fw Mi
section
variable {P : Program} {w : World} {K : PySem.W.Frag} {mg : Str → Option Value} {base : Heap}
noncomputable def m_letter_masks (read : (List Nat)) : Option (List ((List Nat) × Int)) := fin (κ := Unit) (ρ := Unit) (let masks := ([] : List ((List Nat) × Int)); rb (forR (fun (x_ : (Int × (List Nat))) (γ : ((List Nat) × (List ((List Nat) × Int)) × Unit)) => let x1 := x_; let read := γ.1; let masks := γ.2.1; rb (if (!decide (x1.2 = ([78] : List Nat))) = true then ((ob (ob (pck (PShl (1 : Int) x1.1) ((1 : Int) * 2 ^ (x1.1).toNat)) fun y2 => some (Builtin.bitOr ((mget masks x1.2).getD (0 : Int)) y2)) fun x4 => ob (pck (masks.length < sz) (mput masks x1.2 x4)) fun w3 => some (.nxt (read, w3, x1.1, x1.2, ())))) else (some (.nxt (read, masks, x1.1, x1.2, ())))) fun γ => let read := γ.1; let masks := γ.2.1; some (.nxt (read, masks, ()))) (penum (read.map fun c => [c])) (read, masks, ())) fun γ => let masks := γ.2.1; rb (some (.ret masks)) fun γ => some (.nxt γ))
abbrev sp_letter_masks (K : PySem.W.Frag) : Sp := spM (aC jS aN) (sM kyS jI) (fun γ => m_letter_masks γ.1)
theorem ok_letter_masks (T : Tx w K mg) : Dn P w K mg base 1 (He.ga K "letter_masks") ["read"] (sp_letter_masks K) := by
  refine dn_mk T.d_letter_masks sc_letter_masks (fun _ _ _ _ _ _ us hl => match us, hl with | [_], _ => rfl) (spM_len (an_C an_0)) fun cdv A outer s H vs Q E hr h => ?_
  refine ⟨_, (pss_cons (ps_set (i := 1) sc_letter_masks.nd rfl (.inl rfl) pe_dnewK)
      (pss_cons (ps_for PassesOwn.never rfl (pi_enumS (by rfl) T.z_enumerate (pa_cons (pv 0) pa_nil)) (gt_ (K := K) (n := 2) (by rfl) (pgs_cons (pg_name (i := 2) sc_letter_masks.nd rfl (.inl rfl)) (pgs_cons (pg_name (i := 3) sc_letter_masks.nd rfl (.inl rfl)) pgs_nil)))
      (pss_cons (ps_if (pt_cmpR op_ne (pv 3) (pe_globS (by rfl) T.k_UNKNOWN) (nomark _))
      (pss_cons (ps_dput (hu_of hr) (pv 1) (pv 3) (pe_op op_or (pe_dget2 (hu_of hr) (pv 1) (pv 3) pe_int ⟨rfl, rfl, rfl, rfl⟩) (pe_op op_shlW pe_int (pv 2))) rfl)
      pss_nil)
      pss_nil)
      pss_nil))
      (pss_cons (ps_ret (pv 1))
      pss_nil))), ?_⟩
  refine fin_runX (E := (eC (sF jS) (eU (eU (eU eN))))) (E' := eN) (ae_C (ae_U rfl (ae_U rfl (ae_U rfl ae_0)))) (an_C an_0) rfl ?S h rfl
  exact ⟨_, (ss_asg se_dnew (pS p0U) (ss_seq (ss_for (si_enumS (sa_cons (se_var g0) sa_nil)) (sg_tup (K := K) (sgs_C (sg_name (pS (pS p0U))) (sgs_1 (sg_name (pS (pS (pS p0U)))))) (tz tz1)) (ss_seq (ss_if (st_test (se_op (se_var (gS (gS (gS g0)))) (se_str (l := [78])) (s2_neS))) (ss_dput (kS k0) (se_var (gS (gS (gS g0)))) (se_op (se_dget2 (sr_dvar (gS g0)) (se_var (gS (gS (gS g0)))) se_int scI) (se_op se_int (se_var (gS (gS g0))) s2_shl) (s2_I0 (f := fun i j => Builtin.bitOr i j))) ss_nil) ss_nil) (ss_co (cK (cK (cF (cF cId))))))) (ss_seq (ss_retK (kS k0)) ss_nil))), by exact rfl⟩
end
end Lw
namespace Lw
open PySem PySem.Spec PyProof.Rows L2 Fw Mi
local macro_rules | `(tactic| walk_at "m") => `(tactic| simp only [pidx_one, pinS_one, pninS_one, W_some, W_none, W_ob, W_bind, W_pck, W_rb, W_fin, W_finN, W_T, W_F, W_Tr, W_Fa, Rw_nxt, Rw_ret, Rw_cnt, Rf_ret, Rf_nxt, RfN_ret, RfN_nxt, W_finU, RfU_nxt, W_finZ, W_finZN, RfZ_nxt, lcM_id, W_obx, Xf_ok, Xf_er, W_rbx, Xr_ok, Xr_er, W_okx, W_finNX, RfNX_ret, RfNX_nxt, W_finUX, RfUX_nxt, RfUX_er, W_trx, Xt_ok, Xt_er, decide_true, decide_false, Bool.not_true, Bool.not_false])
theorem w_masks {rd : List Nat} {Q : List (List Nat × Int) → Prop} (hl : rd.length ≤ 1000) (q : ∀ m, (∀ c, (mget m [c]).getD 0 = (My.bn rd.length (fun k => agr (rd.getD k 0) c) : Int)) → Q m) : W (m_letter_masks rd) Q := by
  unfold m_letter_masks
  walk_at "m"
  refine W_for (fun i γ => ∃ m, γ = (rd, m, ()) ∧ m.length ≤ i ∧ ∀ c, (mget m [c]).getD 0 = (My.bn i (fun k => agr (rd.getD k 0) c) : Int)) ⟨[], rfl, Nat.le_refl _, fun c => rfl⟩ ?_ ?_
  · rintro i x γ hx ⟨m, rfl, hm, hI⟩
    obtain ⟨g1, g2⟩ := penum_get hx
    obtain ⟨c, hc, g3⟩ := sing_get g2
    have hi := (List.getElem?_eq_some_iff.mp hc).1
    have hd : rd.getD i 0 = c := by rw [List.getD_eq_getElem?_getD, hc]; rfl
    walk_at "m"
    rw [g1, g3, sing_eq]
    refine W_ifN (fun h => ?_) (fun h => ?_)
    · walk_at "m"
      refine ⟨PShl.of (a := 1) (n := 1) (by decide) (by omega) (by omega), by unfold sz; omega, _, rfl, Nat.le_trans (mput_len _ _ _) (by omega), fun c' => ?_⟩
      rw [mget_mput, hI, Int.toNat_natCast]
      by_cases e : c' = c
      · subst e
        rw [if_pos rfl]
        show Builtin.bitOr _ _ = _
        refine My.of_tb _ _ fun k => ?_
        rw [My.tb_or, My.tb_nat, show (1 : Int) * 2 ^ i = ((2 ^ i : Nat) : Int) by rw [Int.one_mul]; exact (Int.natCast_pow 2 i).symm, My.tb_nat, My.bn_bit, Nat.testBit_two_pow]
        by_cases ek : k = i
        · subst ek
          rw [hd, decide_eq_false (Nat.lt_irrefl k), decide_eq_true rfl, decide_eq_true (Nat.lt_succ_self k)]
          unfold agr
          rw [decide_eq_true rfl, decide_eq_false h]
          rfl
        · rw [decide_eq_false (show ¬ i = k from fun z => ek z.symm), Bool.or_false, show decide (k < i) = decide (k < i + 1) from decide_eq_decide.mpr (by omega)]
      · rw [if_neg fun z => e (List.cons.inj z).1, hI]
        rw [My.bn_not (n := i) (f := fun k => agr (rd.getD k 0) c') (by show agr (rd.getD i 0) c' = false; rw [hd]; unfold agr; rw [decide_eq_false (show ¬ c = c' from fun z => e z.symm)]; rfl)]
    · walk_at "m"
      refine ⟨_, rfl, by omega, fun c' => ?_⟩
      rw [hI]
      rw [My.bn_not (n := i) (f := fun k => agr (rd.getD k 0) c') (by show agr (rd.getD i 0) c' = false; rw [hd, h]; unfold agr; simp)]
  · rintro γ ⟨m, rfl, hm, hI⟩
    rw [penum_len, List.length_map] at hI
    walk_at "m"
    exact q m hI

end Lw
namespace Lw
open PySem PySem.Spec PyProof.Rows L2 Fw Mi
section
variable {P : Program} {w : World} {K : PySem.W.Frag} {mg : Str → Option Value} {base : Heap}
noncomputable def m_Column___init (self : (Unit)) (read : (List Nat)) (is_anchored : Bool) : Option ((Int × Int × Int × Int × Int × Int × (List ((List Nat) × Int)) × Unit) × Unit) := finZN (κ := Unit) (β := (Int × Int × Int × Int × Int × Int × (List ((List Nat) × Int)) × Unit) × Unit) (ρ := ((Int × Int × Int × Int × Int × Int × (List ((List Nat) × Int)) × Unit) × (List Nat) × Bool × Unit)) (fun (γ : ((Int × Int × Int × Int × Int × Int × (List ((List Nat) × Int)) × Unit) × (List Nat) × Bool × Unit)) => γ.1) ((ob (m_letter_masks read) fun y16 => let o1 := (y16, self); (ob (ob (ob (pck (read.length ≤ sz) (read.length : Int)) fun y2 => (pck (PShl (1 : Int) y2) ((1 : Int) * 2 ^ (y2).toNat))) fun x3 => some (x3 - (1 : Int))) fun y15 => let o4 := (y15, o1); (ob (ob (ob (pck (read.length ≤ sz) (read.length : Int)) fun x5 => some (x5 - (1 : Int))) fun y6 => (pck (PShl (1 : Int) y6) ((1 : Int) * 2 ^ (y6).toNat))) fun y14 => let o7 := (y14, o4); (ob (if is_anchored = true then (some (1 : Int)) else (some (0 : Int))) fun y13 => let o8 := (y13, o7); let o9 := (o8.2.2.1, o8); let o10 := ((0 : Int), o9); (ob (pck (read.length ≤ sz) (read.length : Int)) fun y12 => let o11 := (y12, o10); some (.nxt (o11, read, is_anchored, ()))))))))
abbrev sp_Column___init (K : PySem.W.Frag) : Sp := spZ (aC jS (aC jB aN)) (sI (He.ga K "Column") fdN) (sI (He.ga K "Column") (fdC "score" (sF jI) (fdC "less" (sF jI) (fdC "more" (sF jI) (fdC "first" (sF jI) (fdC "highest" (sF jI) (fdC "full" (sF jI) (fdC "masks" (sF (jM kyS jI)) fdN)))))))) (sF jN) (fun x γ => m_Column___init x γ.1 γ.2.1)
theorem ok_Column___init (T : Tx w K mg) : Dn P w K mg base 2 (He.ma K (He.ga K "Column") "__init__") ["self", "read", "is_anchored"] (sp_Column___init K) := by
  obtain ⟨fd_letter_masks, G_letter_masks, b_letter_masks, kp_letter_masks, _⟩ := ok_letter_masks (P := P) (w := w) (base := base) T
  refine dn_mk T.d_Column___init sc_Column___init (fun _ _ _ _ _ _ us hl => match us, hl with | [_, _, _], _ => rfl) (spZ_len (an_C (an_C an_0))) fun cdv A outer s H vs Q E hr h => ?_
  refine ⟨_, (pss_cons (ps_fld (pv 0) (pe_call G_letter_masks (hr.mono (by decide)) (by rfl) T.g_letter_masks kp_letter_masks b_letter_masks .nil pass0 (pa_cons (pv 1) pa_nil)) rfl)
      (pss_cons (ps_fld (pv 0) (pe_op op_sub (pe_op op_shlW pe_int (pe_callB k_lenS (by rfl) T.z_len (by decide +kernel) (pa_cons (pv 1) pa_nil))) pe_int) rfl)
      (pss_cons (ps_fld (pv 0) (pe_op op_shlW pe_int (pe_op op_sub (pe_callB k_lenS (by rfl) T.z_len (by decide +kernel) (pa_cons (pv 1) pa_nil)) pe_int)) rfl)
      (pss_cons (ps_fld (pv 0) (pe_ifExp (pt_val (pv 2)) pe_int pe_int) rfl)
      (pss_cons (ps_fld (pv 0) (pe_fld (pv 0) rfl) rfl)
      (pss_cons (ps_fld (pv 0) pe_int rfl)
      (pss_cons (ps_fld (pv 0) (pe_callB k_lenS (by rfl) T.z_len (by decide +kernel) (pa_cons (pv 1) pa_nil)) rfl)
      pss_nil))))))), ?_⟩
  refine finZN_runX (E0 := fun pp => (eC (sIA pp (He.ga K "Column") fdN) (eC (sF jS) (eC (sF jB) eN)))) (E1 := fun pp => (eC (sIA pp (He.ga K "Column") (fdC "score" (sF jI) (fdC "less" (sF jI) (fdC "more" (sF jI) (fdC "first" (sF jI) (fdC "highest" (sF jI) (fdC "full" (sF jI) (fdC "masks" (sF (jM kyS jI)) fdN)))))))) (eC (sF jS) (eC (sF jB) eN)))) (T := fdN) (T2 := (fdC "score" (sF jI) (fdC "less" (sF jI) (fdC "more" (sF jI) (fdC "first" (sF jI) (fdC "highest" (sF jI) (fdC "full" (sF jI) (fdC "masks" (sF (jM kyS jI)) fdN)))))))) (j := fun γ => γ) (g := fun (γ : ((Int × Int × Int × Int × Int × Int × (List ((List Nat) × Int)) × Unit) × (List Nat) × Bool × Unit)) => γ.1) (fun pp {F vs L x γ} r1 r2 => aze (ae_C (ae_C ae_0)) pp r1 r2) (an_C (an_C an_0)) rfl (fun pp => y0) ?S h rfl
  exact fun pp => ⟨_, (ss_fldN T.c_Column T.n_Column_masks (se_fzD fzM (se_call (sa_cons (se_var (gS g0)) sa_nil))) y0 (ss_fldN T.c_Column T.n_Column_full (se_op (se_op se_int (se_cb (sa_cons (se_var (gS g0)) sa_nil) sc_lenS) s2_shl) se_int (s2_I0 (f := fun i j => i - j))) y0 (ss_fldN T.c_Column T.n_Column_highest (se_op se_int (se_op (se_cb (sa_cons (se_var (gS g0)) sa_nil) sc_lenS) se_int (s2_I0 (f := fun i j => i - j))) s2_shl) y0 (ss_fldN T.c_Column T.n_Column_first (se_ifE (st_B (se_var (gS (gS g0)))) se_int se_int) y0 (ss_fldN T.c_Column T.n_Column_more (se_fldO T.c_Column T.n_Column_full (gIA g0) (fgS (fgS fg0))) y0 (ss_fldN T.c_Column T.n_Column_less se_int y0 (ss_fldN T.c_Column T.n_Column_score (se_cb (sa_cons (se_var (gS g0)) sa_nil) sc_lenS) y0 ss_nil (by show _ ∉ (["less", "more", "first", "highest", "full", "masks"] : List Str); decide +kernel) (by show (["less", "more", "first", "highest", "full", "masks"] : List Str).length < 1000; decide)) (by show _ ∉ (["more", "first", "highest", "full", "masks"] : List Str); decide +kernel) (by show (["more", "first", "highest", "full", "masks"] : List Str).length < 1000; decide)) (by show _ ∉ (["first", "highest", "full", "masks"] : List Str); decide +kernel) (by show (["first", "highest", "full", "masks"] : List Str).length < 1000; decide)) (by show _ ∉ (["highest", "full", "masks"] : List Str); decide +kernel) (by show (["highest", "full", "masks"] : List Str).length < 1000; decide)) (by show _ ∉ (["full", "masks"] : List Str); decide +kernel) (by show (["full", "masks"] : List Str).length < 1000; decide)) (by show _ ∉ (["masks"] : List Str); decide +kernel) (by show (["masks"] : List Str).length < 1000; decide)) (by show _ ∉ ([] : List Str); decide +kernel) (by show ([] : List Str).length < 1000; decide)), by exact rfl⟩
end
end Lw
namespace Lw
open PySem PySem.Spec PyProof.Rows L2 Fw Mi
local macro_rules | `(tactic| walk_at "m") => `(tactic| simp only [pidx_one, pinS_one, pninS_one, W_some, W_none, W_ob, W_bind, W_pck, W_rb, W_fin, W_finN, W_T, W_F, W_Tr, W_Fa, Rw_nxt, Rw_ret, Rw_cnt, Rf_ret, Rf_nxt, RfN_ret, RfN_nxt, W_finU, RfU_nxt, W_finZ, W_finZN, RfZ_nxt, lcM_id, W_obx, Xf_ok, Xf_er, W_rbx, Xr_ok, Xr_er, W_okx, W_finNX, RfNX_ret, RfNX_nxt, W_finUX, RfUX_nxt, RfUX_er, W_trx, Xt_ok, Xt_er, decide_true, decide_false, Bool.not_true, Bool.not_false])
theorem w_newcol {rd tx : List Nat} {b : Bool} {Q : (Int × Int × Int × Int × Int × Int × List (List Nat × Int) × Unit) × Unit → Prop} (hl : 1 ≤ rd.length ∧ rd.length ≤ 1000) (q : ∀ s, My.St b rd tx 0 s → Q (s, ())) : W (m_Column___init () rd b) Q := by
  have hz : rd.length ≤ sz := by unfold sz; omega
  unfold m_Column___init
  walk_at "m"
  refine w_masks hl.2 fun m hm => ⟨hz, PShl.of (a := 1) (n := 1) (by decide) (by omega) (by omega), hz, PShl.of (a := 1) (n := 1) (by decide) (by omega) (by omega), ?_⟩
  have e1 : (1 : Int) * 2 ^ (rd.length : Int).toNat - 1 = ((2 ^ rd.length - 1 : Nat) : Int) := by
    have := Nat.one_le_two_pow (n := rd.length)
    rw [Int.toNat_natCast, Int.one_mul]
    have h2 : ((2 : Int) ^ rd.length) = ((2 ^ rd.length : Nat) : Int) := (Int.natCast_pow 2 rd.length).symm
    rw [h2]
    omega
  have e2 : (1 : Int) * 2 ^ ((rd.length : Int) - 1).toNat = ((2 ^ (rd.length - 1) : Nat) : Int) := by
    rw [show ((rd.length : Int) - 1).toNat = rd.length - 1 by omega, Int.one_mul]
    exact (Int.natCast_pow 2 (rd.length - 1)).symm
  rw [e1, e2]
  refine W.mono (Q := fun z => z = if b = true then 1 else 0) ?_ ?_
  · cases b with
    | true => rw [if_pos rfl, if_pos rfl]; exact ⟨1, rfl, rfl⟩
    | false => rw [if_neg (by decide), if_neg (by decide)]; exact ⟨0, rfl, rfl⟩
  rintro _ rfl
  refine ⟨hz, q _ ⟨fun _ => true, fun _ => false, m, fun i _ => ⟨?_, by simp⟩, hm, ?_⟩⟩
  · show ((i + 1 : Nat) : Int) = (i : Int) + 1 - 0
    omega
  · have h1 : ((2 ^ rd.length - 1 : Nat) : Int) = (My.bn rd.length (fun _ => true) : Int) := My.of_tb _ _ fun k => by rw [My.tb_nat, Nat.testBit_two_pow_sub_one, Bool.and_true]
    have h2 : (0 : Int) = (My.bn rd.length (fun _ => false) : Int) := My.of_tb _ _ fun k => by
      rw [show (0 : Int) = ((0 : Nat) : Int) from rfl, My.tb_nat, Nat.zero_testBit, Bool.and_false]
    rw [← h1, ← h2]
    rfl

end Lw
namespace Lw
open PySem PySem.Spec PyProof.Rows L2 Fw Mi
section
variable {P : Program} {w : World} {K : PySem.W.Frag} {mg : Str → Option Value} {base : Heap}
noncomputable def m_distance (read : (List Nat)) (text : (List Nat)) : Option Int := fin (κ := Unit) (ρ := Unit) (rb (if (decide (read = ([] : List Nat))) = true then (rb (ob (pck (text.length ≤ sz) (text.length : Int)) fun r2 => some (.ret r2)) fun γ => some (.nxt γ)) else (some (.nxt (read, text, ())))) fun γ => let read := γ.1; let text := γ.2.1; ob (ob (m_Column___init () read true) fun z => some z.1) fun column => ob (pck (read.length ≤ sz) (read.length : Int)) fun result => rb (forR (fun (x_ : (List Nat)) (γ : ((List Nat) × (List Nat) × (Int × Int × Int × Int × Int × Int × (List ((List Nat) × Int)) × Unit) × Int × Unit)) => let letter := x_; let read := γ.1; let text := γ.2.1; let column := γ.2.2.1; ob (m_Column_read_letter column letter) fun z3 => some (.nxt (read, text, z3.1, z3.2, ()))) (text.map fun c => [c]) (read, text, column, result, ())) fun γ => let result := γ.2.2.2.1; rb (some (.ret result)) fun γ => some (.nxt γ))
abbrev sp_distance (K : PySem.W.Frag) : Sp := spM (aC jS (aC jS aN)) (sF jI) (fun γ => m_distance γ.1 γ.2.1)
theorem ok_distance (T : Tx w K mg) : Dn P w K mg base 4 (He.ga K "distance") ["read", "text"] (sp_distance K) := by
  obtain ⟨fd_Column_read_letter, G_Column_read_letter, b_Column_read_letter, kp_Column_read_letter, _⟩ := ok_Column_read_letter (P := P) (w := w) (base := base) T
  obtain ⟨fd_Column___init, G_Column___init, b_Column___init, kp_Column___init, _⟩ := ok_Column___init (P := P) (w := w) (base := base) T
  refine dn_mk T.d_distance sc_distance (fun _ _ _ _ _ _ us hl => match us, hl with | [_, _], _ => rfl) (spM_len (an_C (an_C an_0))) fun cdv A outer s H vs Q E hr h => ?_
  refine ⟨_, (pss_cons (ps_if (pt_cmpR op_eq (pv 0) (pe_strL (l := []) (by decide +kernel)) (nomark _))
      (pss_cons (ps_ret (pe_callB k_lenS (by rfl) T.z_len (by decide +kernel) (pa_cons (pv 1) pa_nil)))
      pss_nil)
      pss_nil)
      (pss_cons (ps_set (i := 2) sc_distance.nd rfl (.inl rfl) (pe_make T.mk_Column G_Column___init (hr.mono (by decide)) (by rfl) T.g_Column b_Column___init .nil pass0 (pa_cons (pv 0) (pa_cons pe_bl pa_nil))))
      (pss_cons (ps_set (i := 3) sc_distance.nd rfl (.inl rfl) (pe_callB k_lenS (by rfl) T.z_len (by decide +kernel) (pa_cons (pv 0) pa_nil)))
      (pss_cons (ps_for PassesOwn.never rfl (pi_str (pv 1)) (pg_name (i := 4) sc_distance.nd rfl (.inl rfl))
      (pss_cons (ps_set (i := 3) sc_distance.nd rfl (.inl rfl) (pe_meth (pv 2) T.c_Column T.m_Column_read_letter G_Column_read_letter (hr.mono (by decide)) b_Column_read_letter .nil pass0 (pa_cons (pv 4) pa_nil)))
      pss_nil))
      (pss_cons (ps_ret (pv 3))
      pss_nil))))), ?_⟩
  refine fin_runX (E := (eC (sF jS) (eC (sF jS) (eU (eU (eU eN)))))) (E' := eN) (ae_C (ae_C (ae_U rfl (ae_U rfl (ae_U rfl ae_0))))) (an_C (an_C an_0)) rfl ?S h rfl
  exact ⟨_, (ss_seq (ss_if (st_test (se_op (se_var g0) (se_str (l := [])) (s2_eqS))) (ss_seq (ss_ret (se_cb (sa_cons (se_var (gS g0)) sa_nil) sc_lenS)) ss_nil) ss_nil) (ss_asg (se_make (sa_cons (se_var g0) (sa_cons se_bl sa_nil))) (pS (pS p0U)) (ss_asg (se_cb (sa_cons (se_var g0) sa_nil) sc_lenS) (pS (pS (pS p0U))) (ss_seq (ss_for (si_str (se_var (gS g0))) (sg_name (pS (pS (pS (pS p0U))))) (ss_asgZ (yS (yS y0)) (sa_cons (se_var (gS (gS (gS (gS g0))))) sa_nil) (by show _ ∉ (["score", "less", "more", "first", "highest", "full", "masks"] : List Str); decide +kernel) (pS (pS (pS p0))) (ss_co (cK (cK (cK (cK (cF cId)))))))) (ss_seq (ss_ret (se_var (gS (gS (gS g0))))) ss_nil))))), by exact rfl⟩
end
end Lw
namespace Lw
open PySem PySem.Spec PyProof.Rows L2 Fw Mi
local macro_rules | `(tactic| walk_at "m") => `(tactic| simp only [pidx_one, pinS_one, pninS_one, W_some, W_none, W_ob, W_bind, W_pck, W_rb, W_fin, W_finN, W_T, W_F, W_Tr, W_Fa, Rw_nxt, Rw_ret, Rw_cnt, Rf_ret, Rf_nxt, RfN_ret, RfN_nxt, W_finU, RfU_nxt, W_finZ, W_finZN, RfZ_nxt, lcM_id, W_obx, Xf_ok, Xf_er, W_rbx, Xr_ok, Xr_er, W_okx, W_finNX, RfNX_ret, RfNX_nxt, W_finUX, RfUX_nxt, RfUX_er, W_trx, Xt_ok, Xt_er, decide_true, decide_false, Bool.not_true, Bool.not_false])
theorem m_distance_eq {rd tx : List Nat} (hl : rd.length ≤ 1000) (ht : tx.length ≤ 1000) : m_distance rd tx = some (My.col true rd tx tx.length rd.length) := by
  have hz : ∀ k : Nat, k ≤ 1000 → k ≤ sz := fun k h => by unfold sz; omega
  refine W.eq ?_
  unfold m_distance
  walk_at "m"
  refine W_ifD (fun h => ?_) (fun h => ?_)
  · walk_at "m"
    subst h
    exact ⟨hz _ ht, (My.col_top [] tx tx.length).symm⟩
  · walk_at "m"
    have h0 : rd.length ≠ 0 := fun z => h (List.length_eq_zero_iff.mp z)
    refine w_newcol (tx := tx) ⟨by omega, hl⟩ fun s hs => ?_
    refine ⟨hz _ hl, ?_⟩
    refine W_for (fun i γ => ∃ s, γ = (rd, tx, s, My.col true rd tx i rd.length, ()) ∧ My.St true rd tx i s) ⟨s, rfl, hs⟩ ?_ ?_
    · rintro i x γ hx ⟨s, rfl, hs⟩
      obtain ⟨c, hc, rfl⟩ := sing_get hx
      walk_at "m"
      refine m_readletter ⟨by omega, hl⟩ hs c (by rw [List.getD_eq_getElem?_getD, hc]; rfl) fun s' hs' => ?_
      exact ⟨s', rfl, hs'⟩
    · rintro γ ⟨s, rfl, hs⟩
      walk_at "m"
      rw [List.length_map]

end Lw
namespace Lw
open PySem PySem.Spec PyProof.Rows L2 Fw Mi
section
variable {P : Program} {w : World} {K : PySem.W.Frag} {mg : Str → Option Value} {base : Heap}
noncomputable def m_law_agree (a : (List Nat)) (b : (List Nat)) : Option Bool := fin (κ := Unit) (ρ := Unit) (rb (ob (if (decide (a = b)) = true then (some (!decide (a = ([78] : List Nat)))) else some false) fun r2 => some (.ret r2)) fun γ => some (.nxt γ))
abbrev sp_law_agree (K : PySem.W.Frag) : Sp := spM (aC jS (aC jS aN)) (sF jB) (fun γ => m_law_agree γ.1 γ.2.1)
theorem ok_law_agree (T : Tx w K mg) : Dn P w K mg base 1 (He.ga K "_law_agree") ["_law_a", "_law_b"] (sp_law_agree K) := by
  refine dn_mk T.d_law_agree sc_law_agree (fun _ _ _ _ _ _ us hl => match us, hl with | [_, _], _ => rfl) (spM_len (an_C (an_C an_0))) fun cdv A outer s H vs Q E hr h => ?_
  refine ⟨_, (pss_cons (ps_ret (pe_and (pe_cmpR op_eq (pv 0) (pv 1) (nomark _)) (pe_one (pe_cmpR op_ne (pv 0) (pe_strL (l := [78]) (by decide +kernel)) (nomark _)))))
      pss_nil), ?_⟩
  refine fin_runX (E := (eC (sF jS) (eC (sF jS) eN))) (E' := eN) (ae_C (ae_C ae_0)) (an_C (an_C an_0)) rfl ?S h rfl
  exact ⟨_, (ss_seq (ss_ret (se_andV (se_op (se_var g0) (se_var (gS g0)) (s2_eqS)) (se_op (se_var g0) (se_str (l := [78])) (s2_neS)))) ss_nil), by exact rfl⟩
end
end Lw
namespace Lw
open PySem PySem.Spec PyProof.Rows L2 Fw Mi
local macro_rules | `(tactic| walk_at "m") => `(tactic| simp only [pidx_one, pinS_one, pninS_one, W_some, W_none, W_ob, W_bind, W_pck, W_rb, W_fin, W_finN, W_T, W_F, W_Tr, W_Fa, Rw_nxt, Rw_ret, Rw_cnt, Rf_ret, Rf_nxt, RfN_ret, RfN_nxt, W_finU, RfU_nxt, W_finZ, W_finZN, RfZ_nxt, lcM_id, W_obx, Xf_ok, Xf_er, W_rbx, Xr_ok, Xr_er, W_okx, W_finNX, RfNX_ret, RfNX_nxt, W_finUX, RfUX_nxt, RfUX_er, W_trx, Xt_ok, Xt_er, decide_true, decide_false, Bool.not_true, Bool.not_false])
theorem m_law_agree_eq (a b : Nat) : m_law_agree [a] [b] = some (agr a b) := by
  refine W.eq ?_
  unfold m_law_agree
  simp only [sing_eq]
  walk_at "m"
  refine W_ifD (fun h => ?_) (fun h => ?_)
  · walk_at "m"
    unfold agr
    rw [decide_eq_true h]
    rfl
  · walk_at "m"
    unfold agr
    rw [decide_eq_false h]
    rfl

end Lw
namespace Lw
open PySem PySem.Spec PyProof.Rows L2 Fw Mi
section
variable {P : Program} {w : World} {K : PySem.W.Frag} {mg : Str → Option Value} {base : Heap}
noncomputable def m_law_ends (read : (List Nat)) (text : (List Nat)) : Option (List Int) := fin (κ := Unit) (ρ := Unit) (ob (ob (ob (ob (ob (pck (read.length ≤ sz) (read.length : Int)) fun x1 => some (x1 + (1 : Int))) fun x2 => some (x2, ())) fun z3 => (pck (-4611686018427387904 ≤ z3.1 ∧ z3.1 < 4611686018427387904) (prange z3.1))) fun xs5 => (ob (lcM (fun c4 => (some c4)) xs5) fun r => pck (r.length ≤ sz) r)) fun column => ob (ob (ob (pck (read.length ≤ sz) (read.length : Int)) fun x6 => some (x6 :: [])) fun xs => pck (xs.length ≤ sz) xs) fun found => rb (forR (fun (x_ : (List Nat)) (γ : ((List Nat) × (List Nat) × (List Int) × (List Int) × Unit)) => let letter := x_; let read := γ.1; let text := γ.2.1; let column := γ.2.2.1; let found := γ.2.2.2.1; ob (pck (([(0 : Int)] : List Int).length ≤ sz) [(0 : Int)]) fun news => rb (ob (ob (ob (pck (read.length ≤ sz) (read.length : Int)) fun x28 => some (x28, ())) fun z29 => (pck (-4611686018427387904 ≤ z29.1 ∧ z29.1 < 4611686018427387904) (prange z29.1))) fun xs30 => (forR (fun (x_ : Int) (γ : ((List Nat) × (List Nat) × (List Int) × (List Int) × (List Nat) × (List Int) × Unit)) => let i := x_; let read := γ.1; let text := γ.2.1; let column := γ.2.2.1; let found := γ.2.2.2.1; let letter := γ.2.2.2.2.1; let news := γ.2.2.2.2.2.1; ob (ob (ob (pat column i) fun x9 => some (x9 + (1 : Int))) fun x14 => (ob (ob (ob (ob (ob (pixS read i) fun x10 => some (x10, (letter, ()))) fun z11 => (m_law_agree z11.1 z11.2.1)) fun x12 => some (x12, ())) fun z13 => some (if z13.1 = true then (1 : Int) else 0)) fun y15 => some (x14 - y15))) fun pair => (ob (ob (ob (ob (ob (pat column (i + (1 : Int))) fun x16 => some (x16 + (1 : Int))) fun x19 => (ob (ob (ob (pat news i) fun x17 => some (x17 + (1 : Int))) fun x18 => some (x18, ())) fun r20 => some (x19, r20))) fun r21 => some (pair, r21)) fun z22 => some (min (min z22.1 z22.2.1) z22.2.2.1)) fun x24 => ob (pck (news.length < sz) (news ++ [x24])) fun w23 => some (.nxt (read, text, column, found, letter, w23, ())))) xs30 (read, text, column, found, letter, news, ()))) fun γ => let read := γ.1; let text := γ.2.1; let found := γ.2.2.2.1; let news := γ.2.2.2.2.2.1; (ob (ob (pck (read.length ≤ sz) (read.length : Int)) fun y25 => (pat news y25)) fun x27 => ob (pck (found.length < sz) (found ++ [x27])) fun w26 => some (.nxt (read, text, news, w26, ())))) (text.map fun c => [c]) (read, text, column, found, ())) fun γ => let found := γ.2.2.2.1; rb (some (.ret found)) fun γ => some (.nxt γ))
abbrev sp_law_ends (K : PySem.W.Frag) : Sp := spM (aC jS (aC jS aN)) (sO jI) (fun γ => m_law_ends γ.1 γ.2.1)
theorem ok_law_ends (T : Tx w K mg) : Dn P w K mg base 2 (He.ga K "_law_ends") ["_law_read_here", "_law_text_here"] (sp_law_ends K) := by
  obtain ⟨fd_law_agree, G_law_agree, b_law_agree, kp_law_agree, _⟩ := ok_law_agree (P := P) (w := w) (base := base) T
  refine dn_mk T.d_law_ends sc_law_ends (fun _ _ _ _ _ _ us hl => match us, hl with | [_, _], _ => rfl) (spM_len (an_C (an_C an_0))) fun cdv A outer s H vs Q E hr h => ?_
  refine ⟨_, (pss_cons (ps_setLc (i := 2) (own := [("_law_k", 3)]) rfl sc_law_ends.nd rfl rfl (sw_true rfl rfl rfl (by decide +kernel)) (pi_range1 (by rfl) T.z_range (pa_cons (pe_op op_add (pe_callB k_lenS (by rfl) T.z_len (by decide +kernel) (pa_cons (pv 0) pa_nil)) pe_int) pa_nil)) (blkOk_by (own := [("_law_k", 3)]) (N := ["_law_read_here", "_law_text_here", "_law_column", "_law_k", "_law_found", "_law_letter", "_law_news", "_law_i", "_law_pair"]) (sc := defScope s_law_ends) (by decide +kernel)) (fun _ _ _ _ _ => (pg_name (i := 3) sc_law_ends.nd rfl (.inl rfl))) (fun _ _ _ _ _ => pts_nil) (fun _ _ _ _ _ => (pv 3)))
      (pss_cons (ps_set (i := 4) sc_law_ends.nd rfl (.inl rfl) (pe_lst (pa_cons (pe_callB k_lenS (by rfl) T.z_len (by decide +kernel) (pa_cons (pv 0) pa_nil)) pa_nil)))
      (pss_cons (ps_for PassesOwn.never rfl (pi_str (pv 1)) (pg_name (i := 5) sc_law_ends.nd rfl (.inl rfl))
      (pss_cons (ps_set (i := 6) sc_law_ends.nd rfl (.inl rfl) (pe_lst (pa_cons pe_int pa_nil)))
      (pss_cons (ps_for PassesOwn.never rfl (pi_range1 (by rfl) T.z_range (pa_cons (pe_callB k_lenS (by rfl) T.z_len (by decide +kernel) (pa_cons (pv 0) pa_nil)) pa_nil)) (pg_name (i := 7) sc_law_ends.nd rfl (.inl rfl))
      (pss_cons (ps_set (i := 8) sc_law_ends.nd rfl (.inl rfl) (pe_op op_sub (pe_op op_add (pe_ix (ixL_ (K := K)) (pv 2) (pv 7) (fun _ _ => rfl)) pe_int) (pe_callTy k_intB (by rfl) T.z_int (by decide +kernel) (pa_cons (pe_call G_law_agree (hr.mono (by decide)) (by rfl) T.g_law_agree kp_law_agree b_law_agree .nil pass0 (pa_cons (pe_ix k_ixS (pv 0) (pv 7) (fun _ _ => rfl)) (pa_cons (pv 5) pa_nil))) pa_nil))))
      (pss_cons (ps_expr (bm_ (K := K) PySem.F.plainAttrs_list PySem.F.slot_list_append PySem.F.type_list_append mt_append (pv 6) (pa_cons (pe_callB (min3_ rfl) (by rfl) T.z_min (by decide +kernel) (pa_cons (pv 8) (pa_cons (pe_op op_add (pe_ix (ixL_ (K := K)) (pv 2) (pe_op op_add (pv 7) pe_int) (fun _ _ => rfl)) pe_int) (pa_cons (pe_op op_add (pe_ix (ixL_ (K := K)) (pv 6) (pv 7) (fun _ _ => rfl)) pe_int) pa_nil)))) pa_nil)))
      pss_nil)))
      (pss_cons (ps_set (i := 2) sc_law_ends.nd rfl (.inl rfl) (pv 6))
      (pss_cons (ps_expr (bm_ (K := K) PySem.F.plainAttrs_list PySem.F.slot_list_append PySem.F.type_list_append mt_append (pv 4) (pa_cons (pe_ix (ixL_ (K := K)) (pv 2) (pe_callB k_lenS (by rfl) T.z_len (by decide +kernel) (pa_cons (pv 0) pa_nil)) (fun _ _ => rfl)) pa_nil)))
      pss_nil)))))
      (pss_cons (ps_ret (pv 4))
      pss_nil)))), ?_⟩
  refine fin_runX (E := (eC (sF jS) (eC (sF jS) (eU (eU (eU (eU (eU (eU (eU eN)))))))))) (E' := eN) (ae_C (ae_C (ae_U rfl (ae_U rfl (ae_U rfl (ae_U rfl (ae_U rfl (ae_U rfl (ae_U rfl ae_0))))))))) (an_C (an_C an_0)) rfl ?S h rfl
  exact ⟨_, (ss_asg (se_lc (si_r1 (sa_cons (se_op (se_cb (sa_cons (se_var g0) sa_nil) sc_lenS) se_int (s2_I0 (f := fun i j => i + j))) sa_nil)) (wp_cons (nS (nS (nU n0))) wp_nil) (sg_name (pS (pS (pU p0U)))) (se_var (gS (gS (gU g0))))) (pS (pS p0U)) (ss_asg (se_lst (sl_cons (se_cb (sa_cons (se_var g0) sa_nil) sc_lenS) sl_nil)) (pS (pS (pS (pU p0U)))) (ss_pre (cK (cK (cI cId))) (ss_seq (ss_for (si_str (se_var (gS g0))) (sg_name (pS (pS (pS (pU (pS p0U)))))) (ss_asg (se_lst (sl_cons se_int sl_nil)) (pS (pS (pS (pU (pS (pS p0U)))))) (ss_seq (ss_for (si_r1 (sa_cons (se_cb (sa_cons (se_var g0) sa_nil) sc_lenS) sa_nil)) (sg_name (pS (pS (pS (pU (pS (pS (pS p0U)))))))) (ss_asg (se_op (se_op (se_op (se_var (gS (gS g0))) (se_var (gS (gS (gS (gU (gS (gS (gS g0)))))))) s2_ixL) se_int (s2_I0 (f := fun i j => i + j))) (se_cb (sa_cons (se_call (sa_cons (se_op (se_var g0) (se_var (gS (gS (gS (gU (gS (gS (gS g0)))))))) s2_ixS) (sa_cons (se_var (gS (gS (gS (gU (gS g0)))))) sa_nil))) sa_nil) sc_intB) (s2_I0 (f := fun i j => i - j))) (pS (pS (pS (pU (pS (pS (pS (pS p0U)))))))) (ss_app (K := K) (uS (uS (uS (uU (uS (uS u0)))))) (se_cb (sa_cons (se_var (gS (gS (gS (gU (gS (gS (gS (gS g0))))))))) (sa_cons (se_op (se_op (se_var (gS (gS g0))) (se_op (se_var (gS (gS (gS (gU (gS (gS (gS g0)))))))) se_int (s2_I0 (f := fun i j => i + j))) s2_ixL) se_int (s2_I0 (f := fun i j => i + j))) (sa_cons (se_op (se_ixB (K := K) (sb_var (gS (gS (gS (gU (gS (gS g0))))))) (se_var (gS (gS (gS (gU (gS (gS (gS g0))))))))) se_int (s2_I0 (f := fun i j => i + j))) sa_nil))) sc_min3) (ss_co (cK (cK (cK (cU (cK (cK (cK (cF (cF cId))))))))))))) (ss_pre (cK (cK (cK (cU (cK (cK (cI cId))))))) (ss_asg (se_var (gS (gS (gS (gU (gS (gS g0))))))) (pS (pS p0)) (ss_app (K := K) (uS (uS (uS (uU u0)))) (se_op (se_var (gS (gS g0))) (se_cb (sa_cons (se_var g0) sa_nil) sc_lenS) s2_ixL) (ss_co (cK (cK (cK (cU (cK (cF (cF cId)))))))))))))) (ss_seq (ss_retO (gS (gS (gS (gU g0))))) ss_nil))))), by exact rfl⟩
end
end Lw
namespace Lw
open PySem PySem.Spec PyProof.Rows L2 Fw Mi
local macro_rules | `(tactic| walk_at "m") => `(tactic| simp only [pidx_one, pinS_one, pninS_one, W_some, W_none, W_ob, W_bind, W_pck, W_rb, W_fin, W_finN, W_T, W_F, W_Tr, W_Fa, Rw_nxt, Rw_ret, Rw_cnt, Rf_ret, Rf_nxt, RfN_ret, RfN_nxt, W_finU, RfU_nxt, W_finZ, W_finZN, RfZ_nxt, lcM_id, W_obx, Xf_ok, Xf_er, W_rbx, Xr_ok, Xr_er, W_okx, W_finNX, RfNX_ret, RfNX_nxt, W_finUX, RfUX_nxt, RfUX_er, W_trx, Xt_ok, Xt_er, decide_true, decide_false, Bool.not_true, Bool.not_false])
theorem m_lawends_eq {rd tx : List Nat} (hl : rd.length ≤ 1000) (ht : tx.length ≤ 1000) : m_law_ends rd tx = some (cl (tx.length + 1) fun j => My.col false rd tx j rd.length) := by
  have hz : ∀ k : Nat, k ≤ 2000 → k ≤ sz := fun k h => by unfold sz; omega
  refine W.eq ?_
  unfold m_law_ends
  walk_at "m"
  rw [show (rd.length : Int) + 1 = ((rd.length + 1 : Nat) : Int) by omega, prange_cl]
  refine ⟨hz _ (by omega), by omega, by rw [cl_len]; exact hz _ (by omega), hz _ (by omega), hz _ (by show 1 ≤ 2000; omega), ?_⟩
  refine W_for (fun j γ => γ = (rd, tx, cl (rd.length + 1) (My.col false rd tx j), cl (j + 1) (fun j => My.col false rd tx j rd.length), ())) rfl ?_ ?_
  · rintro j x γ hx rfl
    obtain ⟨c, hc, rfl⟩ := sing_get hx
    have hj := (List.getElem?_eq_some_iff.mp hc).1
    walk_at "m"
    refine ⟨hz _ (by show 1 ≤ 2000; omega), hz _ (by omega), by omega, ?_⟩
    refine W_for (fun i γ => γ = (rd, tx, cl (rd.length + 1) (My.col false rd tx j), cl (j + 1) (fun j => My.col false rd tx j rd.length), [c], cl (i + 1) (My.col false rd tx (j + 1)), ())) (by show (_, _, _, _, _, [(0 : Int)], ()) = (_, _, _, _, _, [My.col false rd tx (j + 1) 0], ()); rw [My.col_zero]) ?_ ?_
    · rintro i y γ hy rfl
      obtain ⟨rfl, hi⟩ := prange_get hy
      have hi : i < rd.length := by omega
      walk_at "m"
      have hg : rd[i]? = some rd[i] := List.getElem?_eq_getElem hi
      rw [cl_pat (show i < rd.length + 1 by omega), pixS_nat hg (hz _ (by omega)), show (i : Int) + 1 = ((i + 1 : Nat) : Int) by omega, cl_pat (show i + 1 < rd.length + 1 by omega), cl_pat (Nat.lt_succ_self i)]
      walk_at "m"
      rw [m_law_agree_eq]
      walk_at "m"
      refine ⟨by rw [cl_len]; unfold sz; omega, ?_⟩
      rw [show i + 1 + 1 = (i + 1) + 1 from rfl, ← cl_snoc (i + 1)]
      have e1 : rd.getD i 0 = rd[i] := by rw [List.getD_eq_getElem?_getD, hg]; rfl
      have e2 : tx.getD j 0 = c := by rw [List.getD_eq_getElem?_getD, hc]; rfl
      have e3 : My.col false rd tx (j + 1) (i + 1) = min (min (My.col false rd tx j i + 1 - My.e1 (agr rd[i] c)) (My.col false rd tx j (i + 1) + 1)) (My.col false rd tx (j + 1) i + 1) := by
        rw [← e1, ← e2]
        rfl
      rw [e3]
      rfl
    · rintro γ rfl
      rw [prange_len, Int.toNat_natCast]
      walk_at "m"
      refine ⟨hz _ (by omega), ?_⟩
      rw [cl_pat (show rd.length < rd.length + 1 by omega)]
      walk_at "m"
      refine ⟨by rw [cl_len]; unfold sz; omega, ?_⟩
      rw [cl_snoc (j + 1)]
  · rintro γ rfl
    walk_at "m"
    rw [List.length_map]

end Lw
namespace Lw
open PySem PySem.Spec PyProof.Rows L2 Fw Mi
section
variable {P : Program} {w : World} {K : PySem.W.Frag} {mg : Str → Option Value} {base : Heap}
noncomputable def m_ends (read : (List Nat)) (text : (List Nat)) (k : Int) : Option (List (Int × Int)) := fin (κ := Unit) (ρ := Unit) (ob (pck (([] : List (Int × Int)).length ≤ sz) []) fun result => rb ((ob (ob (pck (read.length ≤ sz) (read.length : Int)) fun x1 => some (decide (x1 ≤ k))) fun b5 => if b5 = true then ((ob (ob (pck (read.length ≤ sz) (read.length : Int)) fun r2 => some ((0 : Int), r2)) fun x4 => ob (pck (result.length < sz) (result ++ [x4])) fun w3 => some (.nxt (read, text, k, w3, ())))) else (some (.nxt (read, text, k, result, ()))))) fun γ => let read := γ.1; let text := γ.2.1; let k := γ.2.2.1; let result := γ.2.2.2.1; ob (ob (m_Column___init () read false) fun z => some z.1) fun column => rb (forR (fun (x_ : (Int × (List Nat))) (γ : ((List Nat) × (List Nat) × Int × (List (Int × Int)) × (Int × Int × Int × Int × Int × Int × (List ((List Nat) × Int)) × Unit) × Unit)) => let x6 := x_; let read := γ.1; let text := γ.2.1; let k := γ.2.2.1; let result := γ.2.2.2.1; let column := γ.2.2.2.2.1; ob (m_Column_read_letter column x6.2) fun z7 => rb (if (decide (z7.2 ≤ k)) = true then (ob (pck (result.length < sz) (result ++ [((x6.1 + (1 : Int)), z7.2)])) fun w8 => some (.nxt (read, text, k, w8, z7.1, x6.1, x6.2, z7.2, ()))) else (some (.nxt (read, text, k, result, z7.1, x6.1, x6.2, z7.2, ())))) fun γ => let read := γ.1; let text := γ.2.1; let k := γ.2.2.1; let result := γ.2.2.2.1; let column := γ.2.2.2.2.1; some (.nxt (read, text, k, result, column, ()))) (penum (text.map fun c => [c])) (read, text, k, result, column, ())) fun γ => let result := γ.2.2.2.1; rb (some (.ret result)) fun γ => some (.nxt γ))
abbrev sp_ends (K : PySem.W.Frag) : Sp := spM (aC jS (aC jS (aC jI aN))) (sO (jT (yC jI (y1 jI)))) (fun γ => m_ends γ.1 γ.2.1 γ.2.2.1)
theorem ok_ends (T : Tx w K mg) : Dn P w K mg base 4 (He.ga K "ends") ["read", "text", "k"] (sp_ends K) := by
  obtain ⟨fd_Column_read_letter, G_Column_read_letter, b_Column_read_letter, kp_Column_read_letter, _⟩ := ok_Column_read_letter (P := P) (w := w) (base := base) T
  obtain ⟨fd_Column___init, G_Column___init, b_Column___init, kp_Column___init, _⟩ := ok_Column___init (P := P) (w := w) (base := base) T
  refine dn_mk T.d_ends sc_ends (fun _ _ _ _ _ _ us hl => match us, hl with | [_, _, _], _ => rfl) (spM_len (an_C (an_C (an_C an_0)))) fun cdv A outer s H vs Q E hr h => ?_
  refine ⟨_, (pss_cons (ps_set (i := 3) sc_ends.nd rfl (.inl rfl) (pe_lst pa_nil))
      (pss_cons (ps_if (pt_cmpR op_le (pe_callB k_lenS (by rfl) T.z_len (by decide +kernel) (pa_cons (pv 0) pa_nil)) (pv 2) (nomark _))
      (pss_cons (ps_expr (bm_ (K := K) PySem.F.plainAttrs_list PySem.F.slot_list_append PySem.F.type_list_append mt_append (pv 3) (pa_cons (pe_tup (pa_cons pe_int (pa_cons (pe_callB k_lenS (by rfl) T.z_len (by decide +kernel) (pa_cons (pv 0) pa_nil)) pa_nil))) pa_nil)))
      pss_nil)
      pss_nil)
      (pss_cons (ps_set (i := 4) sc_ends.nd rfl (.inl rfl) (pe_make T.mk_Column G_Column___init (hr.mono (by decide)) (by rfl) T.g_Column b_Column___init .nil pass0 (pa_cons (pv 0) (pa_cons pe_bl pa_nil))))
      (pss_cons (ps_for PassesOwn.never rfl (pi_enumS (by rfl) T.z_enumerate (pa_cons (pv 1) pa_nil)) (gt_ (K := K) (n := 2) (by rfl) (pgs_cons (pg_name (i := 5) sc_ends.nd rfl (.inl rfl)) (pgs_cons (pg_name (i := 6) sc_ends.nd rfl (.inl rfl)) pgs_nil)))
      (pss_cons (ps_set (i := 7) sc_ends.nd rfl (.inl rfl) (pe_meth (pv 4) T.c_Column T.m_Column_read_letter G_Column_read_letter (hr.mono (by decide)) b_Column_read_letter .nil pass0 (pa_cons (pv 6) pa_nil)))
      (pss_cons (ps_if (pt_cmpR op_le (pv 7) (pv 2) (nomark _))
      (pss_cons (ps_expr (bm_ (K := K) PySem.F.plainAttrs_list PySem.F.slot_list_append PySem.F.type_list_append mt_append (pv 3) (pa_cons (pe_tup (pa_cons (pe_op op_add (pv 5) pe_int) (pa_cons (pv 7) pa_nil))) pa_nil)))
      pss_nil)
      pss_nil)
      pss_nil)))
      (pss_cons (ps_ret (pv 3))
      pss_nil))))), ?_⟩
  refine fin_runX (E := (eC (sF jS) (eC (sF jS) (eC (sF jI) (eU (eU (eU (eU (eU eN))))))))) (E' := eN) (ae_C (ae_C (ae_C (ae_U rfl (ae_U rfl (ae_U rfl (ae_U rfl (ae_U rfl ae_0)))))))) (an_C (an_C (an_C an_0))) rfl ?S h rfl
  exact ⟨_, (ss_asg (se_lst (A := (jT (yC jI (y1 jI)))) sl_nil) (pS (pS (pS p0U))) (ss_seq (ss_if (st_test (se_op (se_cb (sa_cons (se_var g0) sa_nil) sc_lenS) (se_var (gS (gS g0))) (s2_C0 (f := fun i j => decide (i ≤ j))))) (ss_app (K := K) (uS (uS (uS u0))) (se_tup (stC se_int (st1 (se_cb (sa_cons (se_var g0) sa_nil) sc_lenS))) (tz tz1)) ss_nil) ss_nil) (ss_asg (se_make (sa_cons (se_var g0) (sa_cons se_bl sa_nil))) (pS (pS (pS (pS p0U)))) (ss_seq (ss_for (si_enumS (sa_cons (se_var (gS g0)) sa_nil)) (sg_tup (K := K) (sgs_C (sg_name (pS (pS (pS (pS (pS p0U)))))) (sgs_1 (sg_name (pS (pS (pS (pS (pS (pS p0U))))))))) (tz tz1)) (ss_asgZ (yS (yS (yS (yS y0)))) (sa_cons (se_var (gS (gS (gS (gS (gS (gS g0))))))) sa_nil) (by show _ ∉ (["score", "less", "more", "first", "highest", "full", "masks"] : List Str); decide +kernel) (pS (pS (pS (pS (pS (pS (pS p0U))))))) (ss_seq (ss_if (st_test (se_op (se_var (gS (gS (gS (gS (gS (gS (gS g0)))))))) (se_var (gS (gS g0))) (s2_C0 (f := fun i j => decide (i ≤ j))))) (ss_app (K := K) (uS (uS (uS u0))) (se_tup (stC (se_op (se_var (gS (gS (gS (gS (gS g0)))))) se_int (s2_I0 (f := fun i j => i + j))) (st1 (se_var (gS (gS (gS (gS (gS (gS (gS g0)))))))))) (tz tz1)) ss_nil) ss_nil) (ss_co (cK (cK (cK (cK (cK (cF (cF (cF cId)))))))))))) (ss_seq (ss_retO (gS (gS (gS g0)))) ss_nil))))), by exact rfl⟩
end
end Lw
namespace Lw
open PySem PySem.Spec PyProof.Rows L2 Fw Mi
local macro_rules | `(tactic| walk_at "m") => `(tactic| simp only [pidx_one, pinS_one, pninS_one, W_some, W_none, W_ob, W_bind, W_pck, W_rb, W_fin, W_finN, W_T, W_F, W_Tr, W_Fa, Rw_nxt, Rw_ret, Rw_cnt, Rf_ret, Rf_nxt, RfN_ret, RfN_nxt, W_finU, RfU_nxt, W_finZ, W_finZN, RfZ_nxt, lcM_id, W_obx, Xf_ok, Xf_er, W_rbx, Xr_ok, Xr_er, W_okx, W_finNX, RfNX_ret, RfNX_nxt, W_finUX, RfUX_nxt, RfUX_er, W_trx, Xt_ok, Xt_er, decide_true, decide_false, Bool.not_true, Bool.not_false])
theorem m_ends_eq {rd tx : List Nat} {k : Int} (hl : 1 ≤ rd.length ∧ rd.length ≤ 1000) (ht : tx.length ≤ 1000) :
    m_ends rd tx k = some (((List.range (tx.length + 1)).map fun j : Nat => ((j : Int), My.col false rd tx j rd.length)).filter fun z => decide (z.2 ≤ k)) := by
  have hz : ∀ k : Nat, k ≤ 1000 → k ≤ sz := fun k h => by unfold sz; omega
  have hstep : ∀ j : Nat, ((List.range (j + 1)).map fun j : Nat => ((j : Int), My.col false rd tx j rd.length)).filter (fun z => decide (z.2 ≤ k)) = ((List.range j).map fun j : Nat => ((j : Int), My.col false rd tx j rd.length)).filter (fun z => decide (z.2 ≤ k)) ++ if My.col false rd tx j rd.length ≤ k then [((j : Int), My.col false rd tx j rd.length)] else [] := fun j => by
    rw [List.range_succ, List.map_append, List.filter_append]
    congr 1
    show List.filter _ [((j : Int), My.col false rd tx j rd.length)] = _
    by_cases e : My.col false rd tx j rd.length ≤ k
    · rw [if_pos e, List.filter_cons_of_pos (by simpa using e)]
      rfl
    · rw [if_neg e, List.filter_cons_of_neg (by simpa using e)]
      rfl
  have hlen : ∀ j : Nat, (((List.range j).map fun j : Nat => ((j : Int), My.col false rd tx j rd.length)).filter (fun z => decide (z.2 ≤ k))).length ≤ j := fun j => by
    have := List.length_filter_le (fun z : Int × Int => decide (z.2 ≤ k)) ((List.range j).map fun j : Nat => ((j : Int), My.col false rd tx j rd.length))
    rw [List.length_map, List.length_range] at this
    exact this
  refine W.eq ?_
  unfold m_ends
  walk_at "m"
  refine ⟨hz _ (Nat.zero_le _), hz _ hl.2, ?_⟩
  refine W.mono (Q := fun r => r = Res.nxt (rd, tx, k, ((List.range 1).map fun j : Nat => ((j : Int), My.col false rd tx j rd.length)).filter (fun z => decide (z.2 ≤ k)), ())) ?_ ?_
  · rw [hstep 0]
    refine W_ifD (fun h => ?_) (fun h => ?_)
    · walk_at "m"
      have h : My.col false rd tx 0 rd.length ≤ k := h
      rw [if_pos h]
      exact ⟨hz _ hl.2, by unfold sz; decide, rfl⟩
    · walk_at "m"
      have h : ¬ My.col false rd tx 0 rd.length ≤ k := h
      rw [if_neg h]
      rfl
  rintro _ rfl
  rw [Rw_nxt]
  walk_at "m"
  refine w_newcol (tx := tx) hl fun s hs => ?_
  refine W_for (fun i γ => ∃ s, γ = (rd, tx, k, ((List.range (i + 1)).map fun j : Nat => ((j : Int), My.col false rd tx j rd.length)).filter (fun z => decide (z.2 ≤ k)), s, ()) ∧ My.St false rd tx i s) ⟨s, rfl, hs⟩ ?_ ?_
  · rintro i x γ hx ⟨s, rfl, hs⟩
    obtain ⟨g1, g2⟩ := penum_get hx
    obtain ⟨c, hc, g3⟩ := sing_get g2
    have hi := (List.getElem?_eq_some_iff.mp hc).1
    walk_at "m"
    rw [g1, g3]
    refine m_readletter hl hs c (by rw [List.getD_eq_getElem?_getD, hc]; rfl) fun s' hs' => ?_
    have hl2 := hlen (i + 1)
    rw [hstep (i + 1)]
    refine W_ifD (fun h => ?_) (fun h => ?_)
    · walk_at "m"
      have h : My.col false rd tx (i + 1) rd.length ≤ k := h
      rw [if_pos h]
      exact ⟨by unfold sz; omega, s', rfl, hs'⟩
    · walk_at "m"
      have h : ¬ My.col false rd tx (i + 1) rd.length ≤ k := h
      rw [if_neg h, List.append_nil]
      exact ⟨s', rfl, hs'⟩
  · rintro γ ⟨s, rfl, hs⟩
    walk_at "m"
    rw [penum_len, List.length_map]

end Lw
namespace Lw
open PySem PySem.Spec PyProof.Rows L2 Fw Mi
section
variable {P : Program} {w : World} {K : PySem.W.Frag} {mg : Str → Option Value} {base : Heap}
noncomputable def m_law_turned (text : (List Nat)) : Option (List Nat) := fin (κ := Unit) (ρ := Unit) (let news := ([] : List Nat); rb (forR (fun (x_ : (List Nat)) (γ : ((List Nat) × (List Nat) × Unit)) => let letter := x_; let text := γ.1; let news := γ.2.1; ob (ob (ob (pidx ([65, 67, 71, 84, 78] : List Nat) letter) fun y1 => (pixS ([84, 71, 67, 65, 78] : List Nat) y1)) fun x2 => (pck (x2.length + news.length ≤ sz) (x2 ++ news))) fun news => some (.nxt (text, news, ()))) (text.map fun c => [c]) (text, news, ())) fun γ => let news := γ.2.1; rb (some (.ret news)) fun γ => some (.nxt γ))
abbrev sp_law_turned (K : PySem.W.Frag) : Sp := spM (aC jS aN) (sF jS) (fun γ => m_law_turned γ.1)
theorem ok_law_turned (T : Tx w K mg) : Dn P w K mg base 1 (He.ga K "_law_turned") ["_law_text_here"] (sp_law_turned K) := by
  refine dn_mk T.d_law_turned sc_law_turned (fun _ _ _ _ _ _ us hl => match us, hl with | [_], _ => rfl) (spM_len (an_C an_0)) fun cdv A outer s H vs Q E hr h => ?_
  refine ⟨_, (pss_cons (ps_set (i := 1) sc_law_turned.nd rfl (.inl rfl) (pe_strL (l := []) (by decide +kernel)))
      (pss_cons (ps_for PassesOwn.never rfl (pi_str (pv 0)) (pg_name (i := 2) sc_law_turned.nd rfl (.inl rfl))
      (pss_cons (ps_set (i := 1) sc_law_turned.nd rfl (.inl rfl) (pe_op k_addS (pe_ix k_ixS (pe_strL (l := [84, 71, 67, 65, 78]) (by decide +kernel)) (pe_indexL (pe_strL (l := [65, 67, 71, 84, 78]) (by decide +kernel)) (pv 2)) (fun _ _ => rfl)) (pv 1)))
      pss_nil))
      (pss_cons (ps_ret (pv 1))
      pss_nil))), ?_⟩
  refine fin_runX (E := (eC (sF jS) (eU (eU eN)))) (E' := eN) (ae_C (ae_U rfl (ae_U rfl ae_0))) (an_C an_0) rfl ?S h rfl
  exact ⟨_, (ss_asg (se_str (l := [])) (pS p0U) (ss_seq (ss_for (si_str (se_var g0)) (sg_name (pS (pS p0U))) (ss_asg (se_op (se_op (se_str (l := [84, 71, 67, 65, 78])) (se_m1 (se_str (l := [65, 67, 71, 84, 78])) (se_var (gS (gS g0))) sm_idx) s2_ixS) (se_var (gS g0)) s2_addS) (pS p0) (ss_co (cK (cK (cF cId)))))) (ss_seq (ss_ret (se_var (gS g0))) ss_nil))), by exact rfl⟩
end
end Lw
namespace Lw
open PySem PySem.Spec PyProof.Rows L2 Fw Mi
local macro_rules | `(tactic| walk_at "m") => `(tactic| simp only [pidx_one, pinS_one, pninS_one, W_some, W_none, W_ob, W_bind, W_pck, W_rb, W_fin, W_finN, W_T, W_F, W_Tr, W_Fa, Rw_nxt, Rw_ret, Rw_cnt, Rf_ret, Rf_nxt, RfN_ret, RfN_nxt, W_finU, RfU_nxt, W_finZ, W_finZN, RfZ_nxt, lcM_id, W_obx, Xf_ok, Xf_er, W_rbx, Xr_ok, Xr_er, W_okx, W_finNX, RfNX_ret, RfNX_nxt, W_finUX, RfUX_nxt, RfUX_er, W_trx, Xt_ok, Xt_er, decide_true, decide_false, Bool.not_true, Bool.not_false])
theorem m_turned_eq {l : List Nat} (hl : Ltr l) (hz : l.length ≤ 1000000) : m_law_turned l = some (trn l) := by
  refine W.eq ?_
  unfold m_law_turned
  walk_at "m"
  refine W_for (fun i γ => γ = (l, trn (l.take i), ())) (by rw [List.take_zero]; rfl) ?_ ?_
  · rintro i x γ hx rfl
    obtain ⟨c, hc, rfl⟩ := sing_get hx
    have hi := (List.getElem?_eq_some_iff.mp hc).1
    have hcl := hl c (List.mem_of_getElem? hc)
    walk_at "m"
    refine ⟨hcl, ?_⟩
    have hidx : ([65, 67, 71, 84, 78] : List Nat).idxOf c < 5 := List.idxOf_lt_length_of_mem hcl
    refine W_pixS (by decide) (by show 0 ≤ (([65, 67, 71, 84, 78] : List Nat).idxOf c : Int) ∧ (([65, 67, 71, 84, 78] : List Nat).idxOf c : Int) < 5; omega) fun d hd => ?_
    refine ⟨by rw [trn_len, List.length_take]; unfold sz; simp; omega, ?_⟩
    rw [Int.toNat_natCast] at hd
    have ed : d = opp c := by unfold opp; rw [List.getD_eq_getElem?_getD, hd]; rfl
    rw [ed, List.take_add_one, hc]
    show _ = (l, trn (l.take i ++ [c]), ())
    unfold trn
    rw [List.map_append, List.reverse_append]
    rfl
  · rintro γ rfl
    walk_at "m"
    rw [List.length_map, List.take_length]

end Lw
namespace Lw
open PySem PySem.Spec PyProof.Rows L2 Fw Mi
section
variable {P : Program} {w : World} {K : PySem.W.Frag} {mg : Str → Option Value} {base : Heap}
noncomputable def m_law_read (cell : Int) (text : (List Nat)) (size : Int) : Option (List Nat) := fin (κ := Unit) (ρ := Unit) (ob (ob (pck (text.length ≤ sz) (text.length : Int)) fun y1 => (pck (PMod (cell.natAbs : Int) y1) ((cell.natAbs : Int) % y1))) fun start => ob (pck (text.length ≤ sz) (pcut text (some start) (some (start + size)))) fun read => rb (ob (ob (ob (ob (pck (PDiv (cell.natAbs : Int) (101 : Int)) ((cell.natAbs : Int) / (101 : Int))) fun x32 => (pck (PMod x32 (4 : Int)) (x32 % (4 : Int)))) fun x33 => some (x33, ())) fun z34 => (pck (-4611686018427387904 ≤ z34.1 ∧ z34.1 < 4611686018427387904) (prange z34.1))) fun xs35 => (forR (fun (x_ : Int) (γ : (Int × (List Nat) × Int × Int × Int × (List Nat) × Unit)) => let k := x_; let cell := γ.1; let text := γ.2.1; let size := γ.2.2.1; let x := γ.2.2.2.1; let start := γ.2.2.2.2.1; let read := γ.2.2.2.2.2.1; ob (ob (ob (pck (PMul (17 : Int) k) ((17 : Int) * k)) fun y5 => some ((303 : Int) + y5)) fun y6 => (pck (PDiv x y6) (x / y6))) fun y => ob (ob (ob (pck (read.length ≤ sz) (read.length : Int)) fun x7 => some (x7 + (1 : Int))) fun y8 => (pck (PMod y y8) (y % y8))) fun at_ => ob (ob (ob (pck (PDiv y (7 : Int)) (y / (7 : Int))) fun x9 => (pck (PMod x9 (5 : Int)) (x9 % (5 : Int)))) fun y10 => (pixS ([65, 67, 71, 84, 78] : List Nat) y10)) fun letter => rb ((ob (ob (ob (pck (PDiv y (35 : Int)) (y / (35 : Int))) fun x11 => (pck (PMod x11 (3 : Int)) (x11 % (3 : Int)))) fun x12 => some (decide (x12 = (0 : Int)))) fun b26 => if b26 = true then (ob (ob (ob (pck (read.length ≤ sz) (pcut read none (some at_))) fun x13 => (pck (x13.length + letter.length ≤ sz) (x13 ++ letter))) fun x14 => (ob (pck (read.length ≤ sz) (pcut read (some at_) none)) fun y15 => (pck (x14.length + y15.length ≤ sz) (x14 ++ y15)))) fun read => some (.nxt (cell, text, size, x, start, read, k, y, at_, letter, ()))) else (rb ((ob ((ob (ob (ob (pck (PDiv y (35 : Int)) (y / (35 : Int))) fun x16 => (pck (PMod x16 (3 : Int)) (x16 % (3 : Int)))) fun x17 => some (decide (x17 = (1 : Int)))) fun b19 => if b19 = true then (ob (pck (read.length ≤ sz) (read.length : Int)) fun x18 => some (decide ((1 : Int) < x18))) else some false)) fun b25 => if b25 = true then (ob (ob (pck (read.length ≤ sz) (pcut read none (some at_))) fun x20 => (ob (pck (read.length ≤ sz) (pcut read (some (at_ + (1 : Int))) none)) fun y21 => (pck (x20.length + y21.length ≤ sz) (x20 ++ y21)))) fun read => some (.nxt (cell, text, size, x, start, read, k, y, at_, letter, ()))) else (ob (ob (ob (pck (read.length ≤ sz) (pcut read none (some at_))) fun x22 => (pck (x22.length + letter.length ≤ sz) (x22 ++ letter))) fun x23 => (ob (pck (read.length ≤ sz) (pcut read (some (at_ + (1 : Int))) none)) fun y24 => (pck (x23.length + y24.length ≤ sz) (x23 ++ y24)))) fun read => some (.nxt (cell, text, size, x, start, read, k, y, at_, letter, ()))))) fun γ => let cell := γ.1; let text := γ.2.1; let size := γ.2.2.1; let x := γ.2.2.2.1; let start := γ.2.2.2.2.1; let read := γ.2.2.2.2.2.1; let k := γ.2.2.2.2.2.2.1; let y := γ.2.2.2.2.2.2.2.1; let at_ := γ.2.2.2.2.2.2.2.2.1; let letter := γ.2.2.2.2.2.2.2.2.2.1; some (.nxt (cell, text, size, x, start, read, k, y, at_, letter, ()))))) fun γ => let cell := γ.1; let text := γ.2.1; let size := γ.2.2.1; let x := γ.2.2.2.1; let start := γ.2.2.2.2.1; let read := γ.2.2.2.2.2.1; some (.nxt (cell, text, size, x, start, read, ()))) xs35 (cell, text, size, (cell.natAbs : Int), start, read, ()))) fun γ => let cell := γ.1; let text := γ.2.1; let size := γ.2.2.1; let x := γ.2.2.2.1; let start := γ.2.2.2.2.1; let read := γ.2.2.2.2.2.1; rb ((ob (ob (ob (pck (PDiv x (7777 : Int)) (x / (7777 : Int))) fun x27 => (pck (PMod x27 (2 : Int)) (x27 % (2 : Int)))) fun x28 => some (decide (x28 = (1 : Int)))) fun b31 => if b31 = true then (rb (ob (m_law_turned read) fun r30 => some (.ret r30)) fun γ => some (.nxt γ)) else (some (.nxt (cell, text, size, x, start, read, ()))))) fun γ => let read := γ.2.2.2.2.2.1; rb (some (.ret read)) fun γ => some (.nxt γ))
abbrev sp_law_read (K : PySem.W.Frag) : Sp := spM (aC jI (aC jS (aC jI aN))) (sF jS) (fun γ => m_law_read γ.1 γ.2.1 γ.2.2.1)
theorem ok_law_read (T : Tx w K mg) : Dn P w K mg base 2 (He.ga K "_law_read") ["_law_cell_here", "_law_text_here", "_law_size"] (sp_law_read K) := by
  obtain ⟨fd_law_turned, G_law_turned, b_law_turned, kp_law_turned, _⟩ := ok_law_turned (P := P) (w := w) (base := base) T
  refine dn_mk T.d_law_read sc_law_read (fun _ _ _ _ _ _ us hl => match us, hl with | [_, _, _], _ => rfl) (spM_len (an_C (an_C (an_C an_0)))) fun cdv A outer s H vs Q E hr h => ?_
  refine ⟨_, (pss_cons (ps_set (i := 3) sc_law_read.nd rfl (.inl rfl) (pe_callB k_abs (by rfl) T.z_abs (by decide +kernel) (pa_cons (pe_callTy k_int (by rfl) T.z_int (by decide +kernel) (pa_cons (pv 0) pa_nil)) pa_nil)))
      (pss_cons (ps_set (i := 4) sc_law_read.nd rfl (.inl rfl) (pe_op op_mod (pv 3) (pe_callB k_lenS (by rfl) T.z_len (by decide +kernel) (pa_cons (pv 1) pa_nil))))
      (pss_cons (ps_set (i := 5) sc_law_read.nd rfl (.inl rfl) (pe_slice k_slS (pv 1) (po_some (pv 4)) (po_some (pe_op op_add (pv 4) (pv 2)))))
      (pss_cons (ps_for PassesOwn.never rfl (pi_range1 (by rfl) T.z_range (pa_cons (pe_op op_mod (pe_op op_fdiv (pv 3) pe_int) pe_int) pa_nil)) (pg_name (i := 6) sc_law_read.nd rfl (.inl rfl))
      (pss_cons (ps_set (i := 7) sc_law_read.nd rfl (.inl rfl) (pe_op op_fdiv (pv 3) (pe_op op_add pe_int (pe_op op_mul pe_int (pv 6)))))
      (pss_cons (ps_set (i := 8) sc_law_read.nd rfl (.inl rfl) (pe_op op_mod (pv 7) (pe_op op_add (pe_callB k_lenS (by rfl) T.z_len (by decide +kernel) (pa_cons (pv 5) pa_nil)) pe_int)))
      (pss_cons (ps_set (i := 9) sc_law_read.nd rfl (.inl rfl) (pe_ix k_ixS (pe_strL (l := [65, 67, 71, 84, 78]) (by decide +kernel)) (pe_op op_mod (pe_op op_fdiv (pv 7) pe_int) pe_int) (fun _ _ => rfl)))
      (pss_cons (ps_if (pt_cmpR op_eq (pe_op op_mod (pe_op op_fdiv (pv 7) pe_int) pe_int) pe_int (nomark _))
      (pss_cons (ps_set (i := 5) sc_law_read.nd rfl (.inl rfl) (pe_op k_addS (pe_op k_addS (pe_slice k_slS (pv 5) po_none (po_some (pv 8))) (pv 9)) (pe_slice k_slS (pv 5) (po_some (pv 8)) po_none)))
      pss_nil)
      (pss_cons (ps_if (PW.pt (pw_and (pt_cmpR op_eq (pe_op op_mod (pe_op op_fdiv (pv 7) pe_int) pe_int) pe_int (nomark _)) (pw_and1 (pt_cmpR op_gt (pe_callB k_lenS (by rfl) T.z_len (by decide +kernel) (pa_cons (pv 5) pa_nil)) pe_int (nomark _)))))
      (pss_cons (ps_set (i := 5) sc_law_read.nd rfl (.inl rfl) (pe_op k_addS (pe_slice k_slS (pv 5) po_none (po_some (pv 8))) (pe_slice k_slS (pv 5) (po_some (pe_op op_add (pv 8) pe_int)) po_none)))
      pss_nil)
      (pss_cons (ps_set (i := 5) sc_law_read.nd rfl (.inl rfl) (pe_op k_addS (pe_op k_addS (pe_slice k_slS (pv 5) po_none (po_some (pv 8))) (pv 9)) (pe_slice k_slS (pv 5) (po_some (pe_op op_add (pv 8) pe_int)) po_none)))
      pss_nil))
      pss_nil))
      pss_nil)))))
      (pss_cons (ps_if (pt_cmpR op_eq (pe_op op_mod (pe_op op_fdiv (pv 3) pe_int) pe_int) pe_int (nomark _))
      (pss_cons (ps_ret (pe_call G_law_turned (hr.mono (by decide)) (by rfl) T.g_law_turned kp_law_turned b_law_turned .nil pass0 (pa_cons (pv 5) pa_nil)))
      pss_nil)
      pss_nil)
      (pss_cons (ps_ret (pv 5))
      pss_nil)))))), ?_⟩
  refine fin_runX (E := (eC (sF jI) (eC (sF jS) (eC (sF jI) (eU (eU (eU (eU (eU (eU (eU eN))))))))))) (E' := eN) (ae_C (ae_C (ae_C (ae_U rfl (ae_U rfl (ae_U rfl (ae_U rfl (ae_U rfl (ae_U rfl (ae_U rfl ae_0)))))))))) (an_C (an_C (an_C an_0))) rfl ?S h rfl
  exact ⟨_, (ss_asg (se_cb (sa_cons (se_cb (sa_cons (se_var g0) sa_nil) sc_int) sa_nil) sc_abs) (pS (pS (pS p0U))) (ss_asg (se_op (se_var (gS (gS (gS g0)))) (se_cb (sa_cons (se_var (gS g0)) sa_nil) sc_lenS) s2_mod) (pS (pS (pS (pS p0U)))) (ss_asg (se_sl (se_var (gS g0)) (sp_so (se_var (gS (gS (gS (gS g0)))))) (sp_so (se_op (se_var (gS (gS (gS (gS g0))))) (se_var (gS (gS g0))) (s2_I0 (f := fun i j => i + j)))) s3_S) (pS (pS (pS (pS (pS p0U))))) (ss_seq (ss_for (si_r1 (sa_cons (se_op (se_op (se_var (gS (gS (gS g0)))) se_int s2_div) se_int s2_mod) sa_nil)) (sg_name (pS (pS (pS (pS (pS (pS p0U))))))) (ss_asg (se_op (se_var (gS (gS (gS g0)))) (se_op se_int (se_op se_int (se_var (gS (gS (gS (gS (gS (gS g0))))))) s2_mul) (s2_I0 (f := fun i j => i + j))) s2_div) (pS (pS (pS (pS (pS (pS (pS p0U))))))) (ss_asg (se_op (se_var (gS (gS (gS (gS (gS (gS (gS g0)))))))) (se_op (se_cb (sa_cons (se_var (gS (gS (gS (gS (gS g0)))))) sa_nil) sc_lenS) se_int (s2_I0 (f := fun i j => i + j))) s2_mod) (pS (pS (pS (pS (pS (pS (pS (pS p0U)))))))) (ss_asg (se_op (se_str (l := [65, 67, 71, 84, 78])) (se_op (se_op (se_var (gS (gS (gS (gS (gS (gS (gS g0)))))))) se_int s2_div) se_int s2_mod) s2_ixS) (pS (pS (pS (pS (pS (pS (pS (pS (pS p0U))))))))) (ss_seq (ss_if (st_test (se_op (se_op (se_op (se_var (gS (gS (gS (gS (gS (gS (gS g0)))))))) se_int s2_div) se_int s2_mod) se_int (s2_eqI))) (ss_asg (se_op (se_op (se_sl (se_var (gS (gS (gS (gS (gS g0)))))) sp_no (sp_so (se_var (gS (gS (gS (gS (gS (gS (gS (gS g0)))))))))) s3_S) (se_var (gS (gS (gS (gS (gS (gS (gS (gS (gS g0)))))))))) s2_addS) (se_sl (se_var (gS (gS (gS (gS (gS g0)))))) (sp_so (se_var (gS (gS (gS (gS (gS (gS (gS (gS g0)))))))))) sp_no s3_S) s2_addS) (pS (pS (pS (pS (pS p0))))) ss_nil) (ss_seq (ss_if (st_and (st_test (se_op (se_op (se_op (se_var (gS (gS (gS (gS (gS (gS (gS g0)))))))) se_int s2_div) se_int s2_mod) se_int (s2_eqI))) (st_test (se_op (se_cb (sa_cons (se_var (gS (gS (gS (gS (gS g0)))))) sa_nil) sc_lenS) se_int (s2_C0 (f := fun i j => decide (j < i)))))) (ss_asg (se_op (se_sl (se_var (gS (gS (gS (gS (gS g0)))))) sp_no (sp_so (se_var (gS (gS (gS (gS (gS (gS (gS (gS g0)))))))))) s3_S) (se_sl (se_var (gS (gS (gS (gS (gS g0)))))) (sp_so (se_op (se_var (gS (gS (gS (gS (gS (gS (gS (gS g0))))))))) se_int (s2_I0 (f := fun i j => i + j)))) sp_no s3_S) s2_addS) (pS (pS (pS (pS (pS p0))))) ss_nil) (ss_asg (se_op (se_op (se_sl (se_var (gS (gS (gS (gS (gS g0)))))) sp_no (sp_so (se_var (gS (gS (gS (gS (gS (gS (gS (gS g0)))))))))) s3_S) (se_var (gS (gS (gS (gS (gS (gS (gS (gS (gS g0)))))))))) s2_addS) (se_sl (se_var (gS (gS (gS (gS (gS g0)))))) (sp_so (se_op (se_var (gS (gS (gS (gS (gS (gS (gS (gS g0))))))))) se_int (s2_I0 (f := fun i j => i + j)))) sp_no s3_S) s2_addS) (pS (pS (pS (pS (pS p0))))) ss_nil)) ss_nil)) (ss_co (cK (cK (cK (cK (cK (cK (cF (cF (cF (cF cId)))))))))))))))) (ss_seq (ss_if (st_test (se_op (se_op (se_op (se_var (gS (gS (gS g0)))) se_int s2_div) se_int s2_mod) se_int (s2_eqI))) (ss_seq (ss_ret (se_call (sa_cons (se_var (gS (gS (gS (gS (gS g0)))))) sa_nil))) ss_nil) ss_nil) (ss_seq (ss_ret (se_var (gS (gS (gS (gS (gS g0))))))) ss_nil)))))), by exact rfl⟩
end
end Lw
namespace Lw
open PySem PySem.Spec PyProof.Rows L2 Fw Mi
local macro_rules | `(tactic| walk_at "m") => `(tactic| simp only [pidx_one, pinS_one, pninS_one, W_some, W_none, W_ob, W_bind, W_pck, W_rb, W_fin, W_finN, W_T, W_F, W_Tr, W_Fa, Rw_nxt, Rw_ret, Rw_cnt, Rf_ret, Rf_nxt, RfN_ret, RfN_nxt, W_finU, RfU_nxt, W_finZ, W_finZN, RfZ_nxt, lcM_id, W_obx, Xf_ok, Xf_er, W_rbx, Xr_ok, Xr_er, W_okx, W_finNX, RfNX_ret, RfNX_nxt, W_finUX, RfUX_nxt, RfUX_er, W_trx, Xt_ok, Xt_er, decide_true, decide_false, Bool.not_true, Bool.not_false])
theorem w_read {c s : Int} {l : List Nat} {Q : List Nat → Prop} (hl : Ltr l) (h1 : 1 ≤ l.length ∧ l.length ≤ 1000) (hs : 1 ≤ s ∧ s ≤ 1000) (q : ∀ r : List Nat, Ltr r → 1 ≤ r.length → r.length ≤ s.toNat + 3 → Q r) : W (m_law_read c l s) Q := by
  unfold m_law_read
  walk_at "m"
  refine ⟨by unfold sz; omega, by omega, by unfold sz; omega, ?_⟩
  generalize hx : (c.natAbs : Int) = x
  have hx0 : 0 ≤ x := by omega
  obtain ⟨st, hst, hst2⟩ : ∃ st : Nat, x % (l.length : Int) = (st : Int) ∧ st < l.length := by
    have a := Int.emod_nonneg x (show (l.length : Int) ≠ 0 by omega)
    have b := Int.emod_lt_of_pos x (show 0 < (l.length : Int) by omega)
    exact ⟨(x % (l.length : Int)).toNat, by omega, by omega⟩
  rw [hst]
  have es : (st : Int) + s = ((st + s.toNat : Nat) : Int) := by omega
  rw [es, pcut_nat, show st + s.toNat - st = s.toNat by omega]
  refine ⟨by omega, by omega, by omega, ?_⟩
  refine W_for (fun i γ => ∃ r : List Nat, ∃ start, γ = (c, l, s, x, start, r, ()) ∧ Ltr r ∧ 1 ≤ r.length ∧ r.length ≤ s.toNat + i) ⟨_, _, rfl, hl.sub fun c hc => List.mem_of_mem_drop (List.mem_of_mem_take hc), by rw [List.length_take, List.length_drop]; omega, by rw [List.length_take]; omega⟩ ?_ ?_
  · rintro i k γ hk ⟨r, start, rfl, a1, a2, a3⟩
    obtain ⟨rfl, hi⟩ := prange_get hk
    walk_at "m"
    have hi3 : i ≤ 2 := by omega
    refine ⟨by omega, ⟨by omega, by omega⟩, by unfold sz; omega, by omega, ⟨by omega, by omega⟩, by omega, ?_⟩
    generalize x / (303 + 17 * (i : Int)) = y
    obtain ⟨at_, hat, hat2⟩ : ∃ at_ : Nat, y % ((r.length : Int) + 1) = (at_ : Int) ∧ at_ ≤ r.length := by
      have a := Int.emod_nonneg y (show (r.length : Int) + 1 ≠ 0 by omega)
      have b := Int.emod_lt_of_pos y (show 0 < (r.length : Int) + 1 by omega)
      exact ⟨(y % ((r.length : Int) + 1)).toNat, by omega, by omega⟩
    rw [hat]
    refine W_pixS (by decide) (by show 0 ≤ y / 7 % 5 ∧ y / 7 % 5 < 5; omega) fun d hd => ?_
    have ld : Ltr [d] := fun c hc => by rw [List.mem_singleton.mp hc]; exact List.mem_of_getElem? hd
    have e1 : (at_ : Int) + 1 = ((at_ + 1 : Nat) : Int) := by omega
    refine ⟨⟨by omega, by omega⟩, by omega, ?_⟩
    rw [e1]
    rw [pcut_to, pcut_from, pcut_from]
    have q1 : Ltr (r.take at_) := a1.sub fun c hc => List.mem_of_mem_take hc
    have q2 : ∀ k, Ltr (r.drop k) := fun k => a1.sub fun c hc => List.mem_of_mem_drop hc
    have n1 : (r.take at_).length = at_ := by rw [List.length_take]; omega
    have hz : ∀ m : Nat, m ≤ 2000 → m ≤ sz := fun m h => by unfold sz; omega
    refine W_ifD (fun h => ?_) (fun h => ?_)
    · walk_at "m"
      refine ⟨hz _ (by omega), hz _ (by rw [n1]; simp; omega), hz _ (by omega), hz _ (by rw [List.length_append, n1, List.length_drop]; simp; omega), _, _, rfl, (q1.app ld).app (q2 _), by simp; omega, by simp only [List.length_append, n1, List.length_drop, List.length_singleton]; omega⟩
    · walk_at "m"
      refine ⟨⟨by omega, by omega⟩, by omega, ?_⟩
      rw [← W_ob]
      refine W.mono (Q := fun r' => ∃ r2 : List Nat, r' = Res.nxt (c, l, s, x, start, r2, (i : Int), y, (at_ : Int), [d], ()) ∧ Ltr r2 ∧ 1 ≤ r2.length ∧ r2.length ≤ s.toNat + (i + 1)) ?_ ?_
      · walk_at "m"
        refine W.mono (Q := fun b => b = true → 1 < (r.length : Int)) ?_ fun b hb => W_ifB (fun h => ?_) (fun h => ?_)
        · refine W_ifD (fun h => ?_) (fun h => ?_)
          · walk_at "m"
            exact ⟨hz _ (by omega), fun h => of_decide_eq_true h⟩
          · walk_at "m"
            exact fun h => nomatch h
        · have h1 := hb h
          walk_at "m"
          refine ⟨hz _ (by omega), hz _ (by omega), hz _ (by rw [n1, List.length_drop]; omega), _, rfl, q1.app (q2 _), ?_, ?_⟩
          · rw [List.length_append, n1, List.length_drop]; omega
          · rw [List.length_append, n1, List.length_drop]; omega
        · walk_at "m"
          refine ⟨hz _ (by omega), hz _ (by rw [n1]; simp; omega), hz _ (by omega), hz _ (by rw [List.length_append, n1, List.length_drop]; simp; omega), _, rfl, (q1.app ld).app (q2 _), by simp; omega, by simp only [List.length_append, n1, List.length_drop, List.length_singleton]; omega⟩
      · rintro _ ⟨r2, rfl, b1, b2, b3⟩
        walk_at "m"
        exact ⟨_, _, rfl, b1, b2, b3⟩
  · rintro γ ⟨r, start, rfl, a1, a2, a3⟩
    walk_at "m"
    refine ⟨by omega, by omega, ?_⟩
    rw [prange_len] at a3
    have a4 : r.length ≤ s.toNat + 3 := by omega
    refine W_ifD (fun h => ?_) (fun h => ?_)
    · walk_at "m"
      rw [m_turned_eq a1 (by omega)]
      walk_at "m"
      exact q _ (trn_ltr a1) (by rw [trn_len]; exact a2) (by rw [trn_len]; exact a4)
    · walk_at "m"
      exact q _ a1 a2 a4

end Lw
namespace Lw
open PySem PySem.Spec PyProof.Rows L2 Fw Mi
section
variable {P : Program} {w : World} {K : PySem.W.Frag} {mg : Str → Option Value} {base : Heap}
noncomputable def m_law_integer (value : Int) : Option Bool := fin (κ := Unit) (ρ := Unit) (rb (ob (if true = true then (some (!false)) else some false) fun r2 => some (.ret r2)) fun γ => some (.nxt γ))
abbrev sp_law_integer (K : PySem.W.Frag) : Sp := spM (aC jI aN) (sF jB) (fun γ => m_law_integer γ.1)
theorem ok_law_integer (T : Tx w K mg) : Dn P w K mg base 1 (He.ga K "_law_integer") ["_law_value"] (sp_law_integer K) := by
  refine dn_mk T.d_law_integer sc_law_integer (fun _ _ _ _ _ _ us hl => match us, hl with | [_], _ => rfl) (spM_len (an_C an_0)) fun cdv A outer s H vs Q E hr h => ?_
  refine ⟨_, (pss_cons (ps_ret (pe_and (pe_callB (isi_ (K := K)) (by rfl) T.z_isinstance (by decide +kernel) (pa_cons (pv 0) (pa_cons (pe_bltn (v := .ty "int") (by rfl) T.z_int (by decide +kernel) rfl) pa_nil))) (pe_one (pe_not (pe_callB (isi_ (K := K)) (by rfl) T.z_isinstance (by decide +kernel) (pa_cons (pv 0) (pa_cons (pe_bltn (v := .ty "bool") (by rfl) T.z_bool (by decide +kernel) rfl) pa_nil)))))))
      pss_nil), ?_⟩
  refine fin_runX (E := (eC (sF jI) eN)) (E' := eN) (ae_C ae_0) (an_C an_0) rfl ?S h rfl
  exact ⟨_, (ss_seq (ss_ret (se_andV (se_cb (sa_cons (se_var g0) (sa_cons se_v sa_nil)) (is_II (K := K))) (se_notV (se_cb (sa_cons (se_var g0) (sa_cons se_v sa_nil)) (is_IB (K := K)))))) ss_nil), by exact rfl⟩
end
end Lw
namespace Lw
open PySem PySem.Spec PyProof.Rows L2 Fw Mi
local macro_rules | `(tactic| walk_at "m") => `(tactic| simp only [pidx_one, pinS_one, pninS_one, W_some, W_none, W_ob, W_bind, W_pck, W_rb, W_fin, W_finN, W_T, W_F, W_Tr, W_Fa, Rw_nxt, Rw_ret, Rw_cnt, Rf_ret, Rf_nxt, RfN_ret, RfN_nxt, W_finU, RfU_nxt, W_finZ, W_finZN, RfZ_nxt, lcM_id, W_obx, Xf_ok, Xf_er, W_rbx, Xr_ok, Xr_er, W_okx, W_finNX, RfNX_ret, RfNX_nxt, W_finUX, RfUX_nxt, RfUX_er, W_trx, Xt_ok, Xt_er, decide_true, decide_false, Bool.not_true, Bool.not_false])
theorem m_integer_eq (i : Int) : m_law_integer i = some true := rfl

end Lw
namespace Lw
open PySem PySem.Spec PyProof.Rows L2 Fw Mi
section
variable {P : Program} {w : World} {K : PySem.W.Frag} {mg : Str → Option Value} {base : Heap}
noncomputable def m_law_distance (first : (List Nat)) (second : (List Nat)) : Option Int := fin (κ := Unit) (ρ := Unit) (ob (ob (ob (ob (ob (pck (first.length ≤ sz) (first.length : Int)) fun x1 => some (x1 + (1 : Int))) fun x2 => some (x2, ())) fun z3 => (pck (-4611686018427387904 ≤ z3.1 ∧ z3.1 < 4611686018427387904) (prange z3.1))) fun xs5 => (ob (lcM (fun c4 => (some c4)) xs5) fun r => pck (r.length ≤ sz) r)) fun column => rb (forR (fun (x_ : (List Nat)) (γ : ((List Nat) × (List Nat) × (List Int) × Unit)) => let letter := x_; let first := γ.1; let second := γ.2.1; let column := γ.2.2.1; ob (ob (ob (ob (pat column (0 : Int)) fun x6 => some (x6 + (1 : Int))) fun x7 => some (x7 :: [])) fun xs => pck (xs.length ≤ sz) xs) fun news => rb (ob (ob (ob (pck (first.length ≤ sz) (first.length : Int)) fun x26 => some (x26, ())) fun z27 => (pck (-4611686018427387904 ≤ z27.1 ∧ z27.1 < 4611686018427387904) (prange z27.1))) fun xs28 => (forR (fun (x_ : Int) (γ : ((List Nat) × (List Nat) × (List Int) × (List Nat) × (List Int) × Unit)) => let i := x_; let first := γ.1; let second := γ.2.1; let column := γ.2.2.1; let letter := γ.2.2.2.1; let news := γ.2.2.2.2.1; ob (ob (ob (pat column i) fun x10 => some (x10 + (1 : Int))) fun x15 => (ob (ob (ob (ob (ob (pixS first i) fun x11 => some (x11, (letter, ()))) fun z12 => (m_law_agree z12.1 z12.2.1)) fun x13 => some (x13, ())) fun z14 => some (if z14.1 = true then (1 : Int) else 0)) fun y16 => some (x15 - y16))) fun pair => (ob (ob (ob (ob (ob (pat column (i + (1 : Int))) fun x17 => some (x17 + (1 : Int))) fun x20 => (ob (ob (ob (pat news i) fun x18 => some (x18 + (1 : Int))) fun x19 => some (x19, ())) fun r21 => some (x20, r21))) fun r22 => some (pair, r22)) fun z23 => some (min (min z23.1 z23.2.1) z23.2.2.1)) fun x25 => ob (pck (news.length < sz) (news ++ [x25])) fun w24 => some (.nxt (first, second, column, letter, w24, ())))) xs28 (first, second, column, letter, news, ()))) fun γ => let first := γ.1; let second := γ.2.1; let news := γ.2.2.2.2.1; some (.nxt (first, second, news, ()))) (second.map fun c => [c]) (first, second, column, ())) fun γ => let first := γ.1; let column := γ.2.2.1; rb (ob (ob (pck (first.length ≤ sz) (first.length : Int)) fun y31 => (pat column y31)) fun r32 => some (.ret r32)) fun γ => some (.nxt γ))
abbrev sp_law_distance (K : PySem.W.Frag) : Sp := spM (aC jS (aC jS aN)) (sF jI) (fun γ => m_law_distance γ.1 γ.2.1)
theorem ok_law_distance (T : Tx w K mg) : Dn P w K mg base 2 (He.ga K "_law_distance") ["_law_first", "_law_second"] (sp_law_distance K) := by
  obtain ⟨fd_law_agree, G_law_agree, b_law_agree, kp_law_agree, _⟩ := ok_law_agree (P := P) (w := w) (base := base) T
  refine dn_mk T.d_law_distance sc_law_distance (fun _ _ _ _ _ _ us hl => match us, hl with | [_, _], _ => rfl) (spM_len (an_C (an_C an_0))) fun cdv A outer s H vs Q E hr h => ?_
  refine ⟨_, (pss_cons (ps_setLc (i := 2) (own := [("_law_k", 3)]) rfl sc_law_distance.nd rfl rfl (sw_true rfl rfl rfl (by decide +kernel)) (pi_range1 (by rfl) T.z_range (pa_cons (pe_op op_add (pe_callB k_lenS (by rfl) T.z_len (by decide +kernel) (pa_cons (pv 0) pa_nil)) pe_int) pa_nil)) (blkOk_by (own := [("_law_k", 3)]) (N := ["_law_first", "_law_second", "_law_column", "_law_k", "_law_letter", "_law_news", "_law_i", "_law_pair"]) (sc := defScope s_law_distance) (by decide +kernel)) (fun _ _ _ _ _ => (pg_name (i := 3) sc_law_distance.nd rfl (.inl rfl))) (fun _ _ _ _ _ => pts_nil) (fun _ _ _ _ _ => (pv 3)))
      (pss_cons (ps_for PassesOwn.never rfl (pi_str (pv 1)) (pg_name (i := 4) sc_law_distance.nd rfl (.inl rfl))
      (pss_cons (ps_set (i := 5) sc_law_distance.nd rfl (.inl rfl) (pe_lst (pa_cons (pe_op op_add (pe_ix (ixL_ (K := K)) (pv 2) pe_int (fun _ _ => rfl)) pe_int) pa_nil)))
      (pss_cons (ps_for PassesOwn.never rfl (pi_range1 (by rfl) T.z_range (pa_cons (pe_callB k_lenS (by rfl) T.z_len (by decide +kernel) (pa_cons (pv 0) pa_nil)) pa_nil)) (pg_name (i := 6) sc_law_distance.nd rfl (.inl rfl))
      (pss_cons (ps_set (i := 7) sc_law_distance.nd rfl (.inl rfl) (pe_op op_sub (pe_op op_add (pe_ix (ixL_ (K := K)) (pv 2) (pv 6) (fun _ _ => rfl)) pe_int) (pe_callTy k_intB (by rfl) T.z_int (by decide +kernel) (pa_cons (pe_call G_law_agree (hr.mono (by decide)) (by rfl) T.g_law_agree kp_law_agree b_law_agree .nil pass0 (pa_cons (pe_ix k_ixS (pv 0) (pv 6) (fun _ _ => rfl)) (pa_cons (pv 4) pa_nil))) pa_nil))))
      (pss_cons (ps_expr (bm_ (K := K) PySem.F.plainAttrs_list PySem.F.slot_list_append PySem.F.type_list_append mt_append (pv 5) (pa_cons (pe_callB (min3_ rfl) (by rfl) T.z_min (by decide +kernel) (pa_cons (pv 7) (pa_cons (pe_op op_add (pe_ix (ixL_ (K := K)) (pv 2) (pe_op op_add (pv 6) pe_int) (fun _ _ => rfl)) pe_int) (pa_cons (pe_op op_add (pe_ix (ixL_ (K := K)) (pv 5) (pv 6) (fun _ _ => rfl)) pe_int) pa_nil)))) pa_nil)))
      pss_nil)))
      (pss_cons (ps_set (i := 2) sc_law_distance.nd rfl (.inl rfl) (pv 5))
      pss_nil))))
      (pss_cons (ps_ret (pe_ix (ixL_ (K := K)) (pv 2) (pe_callB k_lenS (by rfl) T.z_len (by decide +kernel) (pa_cons (pv 0) pa_nil)) (fun _ _ => rfl)))
      pss_nil))), ?_⟩
  refine fin_runX (E := (eC (sF jS) (eC (sF jS) (eU (eU (eU (eU (eU (eU eN))))))))) (E' := eN) (ae_C (ae_C (ae_U rfl (ae_U rfl (ae_U rfl (ae_U rfl (ae_U rfl (ae_U rfl ae_0)))))))) (an_C (an_C an_0)) rfl ?S h rfl
  exact ⟨_, (ss_asg (se_lc (si_r1 (sa_cons (se_op (se_cb (sa_cons (se_var g0) sa_nil) sc_lenS) se_int (s2_I0 (f := fun i j => i + j))) sa_nil)) (wp_cons (nS (nS (nU n0))) wp_nil) (sg_name (pS (pS (pU p0U)))) (se_var (gS (gS (gU g0))))) (pS (pS p0U)) (ss_pre (cK (cK (cI cId))) (ss_seq (ss_for (si_str (se_var (gS g0))) (sg_name (pS (pS (pS (pU p0U))))) (ss_asg (se_lst (sl_cons (se_op (se_op (se_var (gS (gS g0))) se_int s2_ixL) se_int (s2_I0 (f := fun i j => i + j))) sl_nil)) (pS (pS (pS (pU (pS p0U))))) (ss_seq (ss_for (si_r1 (sa_cons (se_cb (sa_cons (se_var g0) sa_nil) sc_lenS) sa_nil)) (sg_name (pS (pS (pS (pU (pS (pS p0U))))))) (ss_asg (se_op (se_op (se_op (se_var (gS (gS g0))) (se_var (gS (gS (gS (gU (gS (gS g0))))))) s2_ixL) se_int (s2_I0 (f := fun i j => i + j))) (se_cb (sa_cons (se_call (sa_cons (se_op (se_var g0) (se_var (gS (gS (gS (gU (gS (gS g0))))))) s2_ixS) (sa_cons (se_var (gS (gS (gS (gU g0))))) sa_nil))) sa_nil) sc_intB) (s2_I0 (f := fun i j => i - j))) (pS (pS (pS (pU (pS (pS (pS p0U))))))) (ss_app (K := K) (uS (uS (uS (uU (uS u0))))) (se_cb (sa_cons (se_var (gS (gS (gS (gU (gS (gS (gS g0)))))))) (sa_cons (se_op (se_op (se_var (gS (gS g0))) (se_op (se_var (gS (gS (gS (gU (gS (gS g0))))))) se_int (s2_I0 (f := fun i j => i + j))) s2_ixL) se_int (s2_I0 (f := fun i j => i + j))) (sa_cons (se_op (se_ixB (K := K) (sb_var (gS (gS (gS (gU (gS g0)))))) (se_var (gS (gS (gS (gU (gS (gS g0)))))))) se_int (s2_I0 (f := fun i j => i + j))) sa_nil))) sc_min3) (ss_co (cK (cK (cK (cU (cK (cK (cF (cF cId)))))))))))) (ss_pre (cK (cK (cK (cU (cK (cI cId)))))) (ss_asg (se_var (gS (gS (gS (gU (gS g0)))))) (pS (pS p0)) (ss_co (cK (cK (cK (cU (cF (cF cId)))))))))))) (ss_seq (ss_ret (se_op (se_var (gS (gS g0))) (se_cb (sa_cons (se_var g0) sa_nil) sc_lenS) s2_ixL)) ss_nil)))), by exact rfl⟩
end
end Lw
namespace Lw
open PySem PySem.Spec PyProof.Rows L2 Fw Mi
local macro_rules | `(tactic| walk_at "m") => `(tactic| simp only [pidx_one, pinS_one, pninS_one, W_some, W_none, W_ob, W_bind, W_pck, W_rb, W_fin, W_finN, W_T, W_F, W_Tr, W_Fa, Rw_nxt, Rw_ret, Rw_cnt, Rf_ret, Rf_nxt, RfN_ret, RfN_nxt, W_finU, RfU_nxt, W_finZ, W_finZN, RfZ_nxt, lcM_id, W_obx, Xf_ok, Xf_er, W_rbx, Xr_ok, Xr_er, W_okx, W_finNX, RfNX_ret, RfNX_nxt, W_finUX, RfUX_nxt, RfUX_er, W_trx, Xt_ok, Xt_er, decide_true, decide_false, Bool.not_true, Bool.not_false])
theorem m_lawdistance_eq {rd tx : List Nat} (hl : rd.length ≤ 1000) (ht : tx.length ≤ 1000) : m_law_distance rd tx = some (My.col true rd tx tx.length rd.length) := by
  have hz : ∀ k : Nat, k ≤ 2000 → k ≤ sz := fun k h => by unfold sz; omega
  refine W.eq ?_
  unfold m_law_distance
  walk_at "m"
  rw [show (rd.length : Int) + 1 = ((rd.length + 1 : Nat) : Int) by omega, prange_cl]
  refine ⟨hz _ (by omega), by omega, by rw [cl_len]; exact hz _ (by omega), ?_⟩
  refine W_for (fun j γ => γ = (rd, tx, cl (rd.length + 1) (My.col true rd tx j), ())) rfl ?_ ?_
  · rintro j x γ hx rfl
    obtain ⟨c, hc, rfl⟩ := sing_get hx
    have hj := (List.getElem?_eq_some_iff.mp hc).1
    walk_at "m"
    rw [show (0 : Int) = ((0 : Nat) : Int) from rfl, cl_pat (show 0 < rd.length + 1 by omega)]
    walk_at "m"
    refine ⟨hz _ (by show 1 ≤ 2000; omega), hz _ (by omega), by omega, ?_⟩
    refine W_for (fun i γ => γ = (rd, tx, cl (rd.length + 1) (My.col true rd tx j), [c], cl (i + 1) (My.col true rd tx (j + 1)), ())) rfl ?_ ?_
    · rintro i y γ hy rfl
      obtain ⟨rfl, hi⟩ := prange_get hy
      have hi : i < rd.length := by omega
      walk_at "m"
      have hg : rd[i]? = some rd[i] := List.getElem?_eq_getElem hi
      rw [cl_pat (show i < rd.length + 1 by omega), pixS_nat hg (hz _ (by omega)), show (i : Int) + 1 = ((i + 1 : Nat) : Int) by omega, cl_pat (show i + 1 < rd.length + 1 by omega), cl_pat (Nat.lt_succ_self i)]
      walk_at "m"
      rw [m_law_agree_eq]
      walk_at "m"
      refine ⟨by rw [cl_len]; unfold sz; omega, ?_⟩
      rw [show i + 1 + 1 = (i + 1) + 1 from rfl, ← cl_snoc (i + 1)]
      have e1 : rd.getD i 0 = rd[i] := by rw [List.getD_eq_getElem?_getD, hg]; rfl
      have e2 : tx.getD j 0 = c := by rw [List.getD_eq_getElem?_getD, hc]; rfl
      have e3 : My.col true rd tx (j + 1) (i + 1) = min (min (My.col true rd tx j i + 1 - My.e1 (agr rd[i] c)) (My.col true rd tx j (i + 1) + 1)) (My.col true rd tx (j + 1) i + 1) := by
        rw [← e1, ← e2]
        rfl
      rw [e3]
      rfl
    · rintro γ rfl
      rw [prange_len, Int.toNat_natCast]
      walk_at "m"
  · rintro γ rfl
    walk_at "m"
    refine ⟨hz _ (by omega), ?_⟩
    rw [List.length_map, cl_pat (show rd.length < rd.length + 1 by omega)]
    walk_at "m"

end Lw
namespace Lw
open PySem PySem.Spec PyProof.Rows L2 Fw Mi
section
variable {P : Program} {w : World} {K : PySem.W.Frag} {mg : Str → Option Value} {base : Heap}
noncomputable def m_law (script : (List Int)) : Option Bool := fin (κ := Unit) (ρ := Unit) (ob (ob (some (script, (0 : Int), ())) fun z1 => (m_law_cell z1.1 z1.2.1)) fun first => ob (ob (ob (ob (some (script, (1 : Int), ())) fun z2 => (m_law_cell z2.1 z2.2.1)) fun x5 => (ob (ob (pck (PMod first (61 : Int)) (first % (61 : Int))) fun x3 => (ob (some ()) fun r4 => some (x3, r4))) fun r6 => some (x5, r6))) fun z7 => (m_law_text z7.1 z7.2.1)) fun text => ob (ob (some (1 : Int)) fun x11 => (ob (ob (ob (some (script, (4 : Int), ())) fun z8 => (m_law_cell z8.1 z8.2.1)) fun x9 => (ob (some (40 : Int)) fun y10 => (pck (PMod x9 y10) (x9 % y10)))) fun y12 => some (x11 + y12))) fun size => rb ((ob (ob (ob (ob (ob (some (script, (4 : Int), ())) fun z13 => (m_law_cell z13.1 z13.2.1)) fun x14 => (ob (some (40 : Int)) fun y15 => (pck (PDiv x14 y15) (x14 / y15)))) fun x16 => (ob (some (6 : Int)) fun y17 => (pck (PMod x16 y17) (x16 % y17)))) fun x18 => (ob (some (1 : Int)) fun y19 => some (decide (x18 = y19)))) fun b20 => if b20 = true then (ob (some ((60 : Int) + size)) fun size => some (.nxt (script, first, text, size, ()))) else (some (.nxt (script, first, text, size, ()))))) fun γ => let script := γ.1; let first := γ.2.1; let text := γ.2.2.1; let size := γ.2.2.2.1; ob (ob (ob (ob (some (script, (2 : Int), ())) fun z21 => (m_law_cell z21.1 z21.2.1)) fun x22 => (ob (some (size, ())) fun r23 => some (x22, r23))) fun z24 => (m_law_text z24.1 z24.2.1)) fun read => rb ((ob ((ob (ob (ob (ob (some (script, (5 : Int), ())) fun z25 => (m_law_cell z25.1 z25.2.1)) fun x26 => (ob (some (3 : Int)) fun y27 => (pck (PMod x26 y27) (x26 % y27)))) fun x28 => (ob (some (0 : Int)) fun y29 => some (decide (y29 < x28)))) fun b32 => if b32 = true then (ob (pck (text.length ≤ sz) (text.length : Int)) fun x30 => (ob (some (0 : Int)) fun y31 => some (decide (y31 < x30)))) else some false)) fun b37 => if b37 = true then (ob (ob (ob (ob (some (script, (2 : Int), ())) fun z33 => (m_law_cell z33.1 z33.2.1)) fun x34 => (ob (some (text, (size, ()))) fun r35 => some (x34, r35))) fun z36 => (m_law_read z36.1 z36.2.1 z36.2.2.1)) fun read => some (.nxt (script, first, text, size, read, ()))) else (some (.nxt (script, first, text, size, read, ()))))) fun γ => let script := γ.1; let first := γ.2.1; let text := γ.2.2.1; let size := γ.2.2.2.1; let read := γ.2.2.2.2.1; ob (ob (ob (some (script, (3 : Int), ())) fun z38 => (m_law_cell z38.1 z38.2.1)) fun x39 => (ob (some (6 : Int)) fun y40 => (pck (PMod x39 y40) (x39 % y40)))) fun k => rb ((ob (ob (ob (ob (ob (some (script, (3 : Int), ())) fun z41 => (m_law_cell z41.1 z41.2.1)) fun x42 => (ob (some (6 : Int)) fun y43 => (pck (PDiv x42 y43) (x42 / y43)))) fun x44 => (ob (some (5 : Int)) fun y45 => (pck (PMod x44 y45) (x44 % y45)))) fun x46 => (ob (some (1 : Int)) fun y47 => some (decide (x46 = y47)))) fun b53 => if b53 = true then (ob (ob (ob (ob (some (script, (3 : Int), ())) fun z48 => (m_law_cell z48.1 z48.2.1)) fun x49 => (ob (some (30 : Int)) fun y50 => (pck (PDiv x49 y50) (x49 / y50)))) fun x51 => (ob (some (51 : Int)) fun y52 => (pck (PMod x51 y52) (x51 % y52)))) fun k => some (.nxt (script, first, text, size, read, k, ()))) else (some (.nxt (script, first, text, size, read, k, ()))))) fun γ => let script := γ.1; let first := γ.2.1; let text := γ.2.2.1; let size := γ.2.2.2.1; let read := γ.2.2.2.2.1; let k := γ.2.2.2.2.2.1; ob (ob (some (read, text, ())) fun z54 => (m_distance z54.1 z54.2.1)) fun told => rb ((ob ((ob (ob (ob (some (told, ())) fun z55 => (m_law_integer z55.1)) fun x56 => some (!x56)) fun b64 => if b64 = true then some true else ((ob (ob (some told) fun x58 => (ob (ob (some (read, text, ())) fun z57 => (m_law_distance z57.1 z57.2.1)) fun y59 => some (!decide (x58 = y59)))) fun b63 => if b63 = true then some true else (ob (ob (some (text, read, ())) fun z60 => (m_distance z60.1 z60.2.1)) fun x61 => (ob (some told) fun y62 => some (!decide (x61 = y62)))))))) fun b67 => if b67 = true then (rb (ob (some false) fun r66 => some (.ret r66)) fun γ => some (.nxt γ)) else (some (.nxt (script, first, text, size, read, k, told, ()))))) fun γ => let script := γ.1; let first := γ.2.1; let text := γ.2.2.1; let size := γ.2.2.2.1; let read := γ.2.2.2.2.1; let k := γ.2.2.2.2.2.1; let told := γ.2.2.2.2.2.2.1; rb ((ob ((ob (ob (ob (some (([] : List Nat), text, ())) fun z68 => (m_distance z68.1 z68.2.1)) fun x69 => (ob (pck (text.length ≤ sz) (text.length : Int)) fun y70 => some (!decide (x69 = y70)))) fun b74 => if b74 = true then some true else (ob (ob (some (read, ([] : List Nat), ())) fun z71 => (m_distance z71.1 z71.2.1)) fun x72 => (ob (pck (read.length ≤ sz) (read.length : Int)) fun y73 => some (!decide (x72 = y73)))))) fun b77 => if b77 = true then (rb (ob (some false) fun r76 => some (.ret r76)) fun γ => some (.nxt γ)) else (some (.nxt (script, first, text, size, read, k, told, ()))))) fun γ => let script := γ.1; let first := γ.2.1; let text := γ.2.2.1; let size := γ.2.2.2.1; let read := γ.2.2.2.2.1; let k := γ.2.2.2.2.2.1; let told := γ.2.2.2.2.2.2.1; ob (ob (some (read, text, ())) fun z78 => (m_law_ends z78.1 z78.2.1)) fun row => ob (ob (some (read, text, k, ())) fun z79 => (m_ends z79.1 z79.2.1 z79.2.2.1)) fun found => rb ((ob ((ob (some (!true)) fun b86 => if b86 = true then some true else (ob (ob (ob (ob (some found) fun xs81 => (ob (lcM (fun c80 => (some true)) xs81) fun r => pck (r.length ≤ sz) r)) fun x82 => (ob (some ()) fun r83 => some (x82, r83))) fun z84 => some (z84.1.all id)) fun x85 => some (!x85)))) fun b89 => if b89 = true then (rb (ob (some false) fun r88 => some (.ret r88)) fun γ => some (.nxt γ)) else (some (.nxt (script, first, text, size, read, k, told, row, found, ()))))) fun γ => let k := γ.2.2.2.2.2.1; let row := γ.2.2.2.2.2.2.2.1; let found := γ.2.2.2.2.2.2.2.2.1; rb (ob (ob (some found) fun x105 => (ob (ob (ob (some ((row.length : Int), ())) fun z => (pck (-4611686018427387904 ≤ z.1 ∧ z.1 < 4611686018427387904) (prange z.1))) fun xs104 => (ob (lcF (fun c99 => (ob (pat row c99) fun x102 => (ob (some k) fun y103 => some (decide (x102 ≤ y103))))) (fun c99 => (ob (some c99) fun x100 => (ob (pat row c99) fun r101 => some (x100, r101)))) xs104) fun r => pck (r.length ≤ sz) r)) fun y106 => some (decide (x105 = y106)))) fun r107 => some (.ret r107)) fun γ => some (.nxt γ))
abbrev sp_law (K : PySem.W.Frag) : Sp := spM (aC (jQ K jI) aN) (sF jB) (fun γ => m_law γ.1)
theorem ok_law (T : Tx w K mg) : Dn P w K mg base 5 (He.ga K "law") ["_law_script"] (sp_law K) := by
  obtain ⟨fd_law_cell, G_law_cell, b_law_cell, kp_law_cell, _⟩ := ok_law_cell (P := P) (w := w) (base := base) T
  obtain ⟨fd_law_text, G_law_text, b_law_text, kp_law_text, _⟩ := ok_law_text (P := P) (w := w) (base := base) T
  obtain ⟨fd_distance, G_distance, b_distance, kp_distance, _⟩ := ok_distance (P := P) (w := w) (base := base) T
  obtain ⟨fd_law_ends, G_law_ends, b_law_ends, kp_law_ends, _⟩ := ok_law_ends (P := P) (w := w) (base := base) T
  obtain ⟨fd_ends, G_ends, b_ends, kp_ends, _⟩ := ok_ends (P := P) (w := w) (base := base) T
  obtain ⟨fd_law_read, G_law_read, b_law_read, kp_law_read, _⟩ := ok_law_read (P := P) (w := w) (base := base) T
  obtain ⟨fd_law_integer, G_law_integer, b_law_integer, kp_law_integer, _⟩ := ok_law_integer (P := P) (w := w) (base := base) T
  obtain ⟨fd_law_distance, G_law_distance, b_law_distance, kp_law_distance, _⟩ := ok_law_distance (P := P) (w := w) (base := base) T
  refine dn_mk T.d_law sc_law (fun _ _ _ _ _ _ us hl => match us, hl with | [_], _ => rfl) (spM_len (an_C an_0)) fun cdv A outer s H vs Q E hr h => ?_
  refine ⟨_, (pss_cons (ps_set (i := 1) sc_law.nd rfl (.inl rfl) (pe_call G_law_cell (hr.mono (by decide)) (by rfl) T.g_law_cell kp_law_cell b_law_cell .nil pass0 (pa_cons (pv 0) (pa_cons pe_int pa_nil))))
      (pss_cons (ps_set (i := 2) sc_law.nd rfl (.inl rfl) (pe_call G_law_text (hr.mono (by decide)) (by rfl) T.g_law_text kp_law_text b_law_text .nil pass0 (pa_cons (pe_call G_law_cell (hr.mono (by decide)) (by rfl) T.g_law_cell kp_law_cell b_law_cell .nil pass0 (pa_cons (pv 0) (pa_cons pe_int pa_nil))) (pa_cons (pe_op op_mod (pv 1) pe_int) pa_nil))))
      (pss_cons (ps_set (i := 3) sc_law.nd rfl (.inl rfl) (pe_op op_add pe_int (pe_op op_mod (pe_call G_law_cell (hr.mono (by decide)) (by rfl) T.g_law_cell kp_law_cell b_law_cell .nil pass0 (pa_cons (pv 0) (pa_cons pe_int pa_nil))) pe_int)))
      (pss_cons (ps_if (pt_cmpR op_eq (pe_op op_mod (pe_op op_fdiv (pe_call G_law_cell (hr.mono (by decide)) (by rfl) T.g_law_cell kp_law_cell b_law_cell .nil pass0 (pa_cons (pv 0) (pa_cons pe_int pa_nil))) pe_int) pe_int) pe_int (nomark _))
      (pss_cons (ps_set (i := 3) sc_law.nd rfl (.inl rfl) (pe_op op_add pe_int (pv 3)))
      pss_nil)
      pss_nil)
      (pss_cons (ps_set (i := 4) sc_law.nd rfl (.inl rfl) (pe_call G_law_text (hr.mono (by decide)) (by rfl) T.g_law_text kp_law_text b_law_text .nil pass0 (pa_cons (pe_call G_law_cell (hr.mono (by decide)) (by rfl) T.g_law_cell kp_law_cell b_law_cell .nil pass0 (pa_cons (pv 0) (pa_cons pe_int pa_nil))) (pa_cons (pv 3) pa_nil))))
      (pss_cons (ps_if (PW.pt (pw_and (pt_cmpR op_gt (pe_op op_mod (pe_call G_law_cell (hr.mono (by decide)) (by rfl) T.g_law_cell kp_law_cell b_law_cell .nil pass0 (pa_cons (pv 0) (pa_cons pe_int pa_nil))) pe_int) pe_int (nomark _)) (pw_and1 (pt_cmpR op_gt (pe_callB k_lenS (by rfl) T.z_len (by decide +kernel) (pa_cons (pv 2) pa_nil)) pe_int (nomark _)))))
      (pss_cons (ps_set (i := 4) sc_law.nd rfl (.inl rfl) (pe_call G_law_read (hr.mono (by decide)) (by rfl) T.g_law_read kp_law_read b_law_read .nil pass0 (pa_cons (pe_call G_law_cell (hr.mono (by decide)) (by rfl) T.g_law_cell kp_law_cell b_law_cell .nil pass0 (pa_cons (pv 0) (pa_cons pe_int pa_nil))) (pa_cons (pv 2) (pa_cons (pv 3) pa_nil)))))
      pss_nil)
      pss_nil)
      (pss_cons (ps_set (i := 5) sc_law.nd rfl (.inr rfl) (pe_op op_mod (pe_call G_law_cell (hr.mono (by decide)) (by rfl) T.g_law_cell kp_law_cell b_law_cell .nil pass0 (pa_cons (pv 0) (pa_cons pe_int pa_nil))) pe_int))
      (pss_cons (ps_if (pt_cmpR op_eq (pe_op op_mod (pe_op op_fdiv (pe_call G_law_cell (hr.mono (by decide)) (by rfl) T.g_law_cell kp_law_cell b_law_cell .nil pass0 (pa_cons (pv 0) (pa_cons pe_int pa_nil))) pe_int) pe_int) pe_int (nomark _))
      (pss_cons (ps_set (i := 5) sc_law.nd rfl (.inr rfl) (pe_op op_mod (pe_op op_fdiv (pe_call G_law_cell (hr.mono (by decide)) (by rfl) T.g_law_cell kp_law_cell b_law_cell .nil pass0 (pa_cons (pv 0) (pa_cons pe_int pa_nil))) pe_int) pe_int))
      pss_nil)
      pss_nil)
      (pss_cons (ps_set (i := 6) sc_law.nd rfl (.inl rfl) (pe_call G_distance (hr.mono (by decide)) (by rfl) T.g_distance kp_distance b_distance .nil pass0 (pa_cons (pv 4) (pa_cons (pv 2) pa_nil))))
      (pss_cons (ps_if (PW.pt (pw_or (pt_not (pt_val (pe_call G_law_integer (hr.mono (by decide)) (by rfl) T.g_law_integer kp_law_integer b_law_integer .nil pass0 (pa_cons (pv 6) pa_nil)))) (pw_or (pt_cmpR op_ne (pv 6) (pe_call G_law_distance (hr.mono (by decide)) (by rfl) T.g_law_distance kp_law_distance b_law_distance .nil pass0 (pa_cons (pv 4) (pa_cons (pv 2) pa_nil))) (nomark _)) (pw_or1 (pt_cmpR op_ne (pe_call G_distance (hr.mono (by decide)) (by rfl) T.g_distance kp_distance b_distance .nil pass0 (pa_cons (pv 2) (pa_cons (pv 4) pa_nil))) (pv 6) (nomark _))))))
      (pss_cons (ps_ret pe_bl)
      pss_nil)
      pss_nil)
      (pss_cons (ps_if (PW.pt (pw_or (pt_cmpR op_ne (pe_call G_distance (hr.mono (by decide)) (by rfl) T.g_distance kp_distance b_distance .nil pass0 (pa_cons (pe_strL (l := []) (by decide +kernel)) (pa_cons (pv 2) pa_nil))) (pe_callB k_lenS (by rfl) T.z_len (by decide +kernel) (pa_cons (pv 2) pa_nil)) (nomark _)) (pw_or1 (pt_cmpR op_ne (pe_call G_distance (hr.mono (by decide)) (by rfl) T.g_distance kp_distance b_distance .nil pass0 (pa_cons (pv 4) (pa_cons (pe_strL (l := []) (by decide +kernel)) pa_nil))) (pe_callB k_lenS (by rfl) T.z_len (by decide +kernel) (pa_cons (pv 4) pa_nil)) (nomark _)))))
      (pss_cons (ps_ret pe_bl)
      pss_nil)
      pss_nil)
      (pss_cons (ps_set (i := 7) sc_law.nd rfl (.inr rfl) (pe_call G_law_ends (hr.mono (by decide)) (by rfl) T.g_law_ends kp_law_ends b_law_ends .nil pass0 (pa_cons (pv 4) (pa_cons (pv 2) pa_nil))))
      (pss_cons (ps_set (i := 8) sc_law.nd rfl (.inl rfl) (pe_call G_ends (hr.mono (by decide)) (by rfl) T.g_ends kp_ends b_ends .nil pass0 (pa_cons (pv 4) (pa_cons (pv 2) (pa_cons (pv 5) pa_nil)))))
      (pss_cons (ps_if (PW.pt (pw_or (pt_not (pt_val (pe_callB (isi_ (K := K)) (by rfl) T.z_isinstance (by decide +kernel) (pa_cons (pv 8) (pa_cons (pe_bltn (v := .ty "list") (by rfl) T.z_list (by decide +kernel) rfl) pa_nil))))) (pw_or1 (pt_not (pt_val (pe_callB (all_ (K := K) rfl) (by rfl) T.z_all (by decide +kernel) (pa_cons (pe_lc (own := [("_law_one", 9)]) rfl sc_law.nd (iL_ (K := K) (pv 8)) (blkOk_by (own := [("_law_one", 9)]) (N := ["_law_script", "_law_first", "_law_text_here", "_law_size", "_law_read_here", "_law_k", "_law_told", "_law_row_here", "_law_found", "_law_one", "_law_e"]) (sc := defScope s_law) (by decide +kernel)) (fun _ _ _ _ _ => (pg_name (i := 9) sc_law.nd rfl (.inl rfl))) (fun _ _ _ _ _ => pts_nil) (fun _ _ _ _ _ => (pe_callB (isi_ (K := K)) (by rfl) T.z_isinstance (by decide +kernel) (pa_cons (pv 9) (pa_cons (pe_bltn (v := .ty "tuple") (by rfl) T.z_tuple (by decide +kernel) rfl) pa_nil))))) pa_nil)))))))
      (pss_cons (ps_ret pe_bl)
      pss_nil)
      pss_nil)
      (pss_cons (ps_ret (pe_cmpR (eqD_ (K := K) hr.units) (pv 8) (pe_lc (own := [("_law_e", 10)]) rfl sc_law.nd (pi_range1 (by rfl) T.z_range (pa_cons (pe_callB (lenQ_ (K := K)) (by rfl) T.z_len (by decide +kernel) (pa_cons (pv 7) pa_nil)) pa_nil)) (blkOk_by (own := [("_law_e", 10)]) (N := ["_law_script", "_law_first", "_law_text_here", "_law_size", "_law_read_here", "_law_k", "_law_told", "_law_row_here", "_law_found", "_law_one", "_law_e"]) (sc := defScope s_law) (by decide +kernel)) (fun _ _ _ _ _ => (pg_name (i := 10) sc_law.nd rfl (.inl rfl))) (fun _ _ _ _ _ => (pts_one (pt_cmpR op_le (pe_ix (ixL_ (K := K)) (pv 7) (pv 10) (fun _ _ => rfl)) (pv 5) (nomark _)))) (fun _ _ _ _ _ => (pe_tup (pa_cons (pv 10) (pa_cons (pe_ix (ixL_ (K := K)) (pv 7) (pv 10) (fun _ _ => rfl)) pa_nil))))) (nomark _)))
      pss_nil))))))))))))))), ?_⟩
  refine fin_runX (E := (eC (sF (jQ K jI)) (eU (eU (eU (eU (eU (eU (eU (eU (eU (eU eN)))))))))))) (E' := eN) (ae_C (ae_U rfl (ae_U rfl (ae_U rfl (ae_U rfl (ae_U rfl (ae_U rfl (ae_U rfl (ae_U rfl (ae_U rfl (ae_U rfl ae_0))))))))))) (an_C an_0) rfl ?S h rfl
  exact ⟨_, (ss_asg (se_call (sa_cons (se_var g0) (sa_cons se_int sa_nil))) (pS p0U) (ss_asg (se_call (sa_cons (se_call (sa_cons (se_var g0) (sa_cons se_int sa_nil))) (sa_cons (se_op (se_var (gS g0)) se_int s2_mod) sa_nil))) (pS (pS p0U)) (ss_asg (se_op se_int (se_op (se_call (sa_cons (se_var g0) (sa_cons se_int sa_nil))) se_int s2_mod) (s2_I0 (f := fun i j => i + j))) (pS (pS (pS p0U))) (ss_seq (ss_if (st_test (se_op (se_op (se_op (se_call (sa_cons (se_var g0) (sa_cons se_int sa_nil))) se_int s2_div) se_int s2_mod) se_int (s2_eqI))) (ss_asg (se_op se_int (se_var (gS (gS (gS g0)))) (s2_I0 (f := fun i j => i + j))) (pS (pS (pS p0))) ss_nil) ss_nil) (ss_asg (se_call (sa_cons (se_call (sa_cons (se_var g0) (sa_cons se_int sa_nil))) (sa_cons (se_var (gS (gS (gS g0)))) sa_nil))) (pS (pS (pS (pS p0U)))) (ss_seq (ss_if (st_and (st_test (se_op (se_op (se_call (sa_cons (se_var g0) (sa_cons se_int sa_nil))) se_int s2_mod) se_int (s2_C0 (f := fun i j => decide (j < i))))) (st_test (se_op (se_cb (sa_cons (se_var (gS (gS g0))) sa_nil) sc_lenS) se_int (s2_C0 (f := fun i j => decide (j < i)))))) (ss_asg (se_call (sa_cons (se_call (sa_cons (se_var g0) (sa_cons se_int sa_nil))) (sa_cons (se_var (gS (gS g0))) (sa_cons (se_var (gS (gS (gS g0)))) sa_nil)))) (pS (pS (pS (pS p0)))) ss_nil) ss_nil) (ss_asg (se_op (se_call (sa_cons (se_var g0) (sa_cons se_int sa_nil))) se_int s2_mod) (pS (pS (pS (pS (pS p0U))))) (ss_seq (ss_if (st_test (se_op (se_op (se_op (se_call (sa_cons (se_var g0) (sa_cons se_int sa_nil))) se_int s2_div) se_int s2_mod) se_int (s2_eqI))) (ss_asg (se_op (se_op (se_call (sa_cons (se_var g0) (sa_cons se_int sa_nil))) se_int s2_div) se_int s2_mod) (pS (pS (pS (pS (pS p0))))) ss_nil) ss_nil) (ss_asg (se_call (sa_cons (se_var (gS (gS (gS (gS g0))))) (sa_cons (se_var (gS (gS g0))) sa_nil))) (pS (pS (pS (pS (pS (pS p0U)))))) (ss_seq (ss_if (st_or (st_not (st_B (se_call (sa_cons (se_var (gS (gS (gS (gS (gS (gS g0))))))) sa_nil)))) (st_or (st_test (se_op (se_var (gS (gS (gS (gS (gS (gS g0))))))) (se_call (sa_cons (se_var (gS (gS (gS (gS g0))))) (sa_cons (se_var (gS (gS g0))) sa_nil))) (s2_neI))) (st_test (se_op (se_call (sa_cons (se_var (gS (gS g0))) (sa_cons (se_var (gS (gS (gS (gS g0))))) sa_nil))) (se_var (gS (gS (gS (gS (gS (gS g0))))))) (s2_neI))))) (ss_seq (ss_ret se_bl) ss_nil) ss_nil) (ss_seq (ss_if (st_or (st_test (se_op (se_call (sa_cons (se_str (l := [])) (sa_cons (se_var (gS (gS g0))) sa_nil))) (se_cb (sa_cons (se_var (gS (gS g0))) sa_nil) sc_lenS) (s2_neI))) (st_test (se_op (se_call (sa_cons (se_var (gS (gS (gS (gS g0))))) (sa_cons (se_str (l := [])) sa_nil))) (se_cb (sa_cons (se_var (gS (gS (gS (gS g0))))) sa_nil) sc_lenS) (s2_neI)))) (ss_seq (ss_ret se_bl) ss_nil) ss_nil) (ss_asg (se_call (sa_cons (se_var (gS (gS (gS (gS g0))))) (sa_cons (se_var (gS (gS g0))) sa_nil))) (pS (pS (pS (pS (pS (pS (pS p0U))))))) (ss_asg (se_call (sa_cons (se_var (gS (gS (gS (gS g0))))) (sa_cons (se_var (gS (gS g0))) (sa_cons (se_var (gS (gS (gS (gS (gS g0)))))) sa_nil)))) (pS (pS (pS (pS (pS (pS (pS (pS p0U)))))))) (ss_pre (cK (cK (cK (cK (cK (cK (cK (cK (cI cId))))))))) (ss_seq (ss_if (st_or (st_not (st_B (se_cb (sa_cons (se_var (gS (gS (gS (gS (gS (gS (gS (gS g0))))))))) (sa_cons se_v sa_nil)) (is_LL (K := K))))) (st_not (st_B (se_cb (sa_cons (se_fz (se_lc (si_list (se_var (gS (gS (gS (gS (gS (gS (gS (gS g0)))))))))) (wp_cons (nS (nS (nS (nS (nS (nS (nS (nS (nS n0))))))))) wp_nil) (sg_name (pS (pS (pS (pS (pS (pS (pS (pS (pS p0U)))))))))) (se_cb (sa_cons (se_var (gS (gS (gS (gS (gS (gS (gS (gS (gS g0)))))))))) (sa_cons se_v sa_nil)) (is_TT (K := K))))) sa_nil) (sc_all (K := K)))))) (ss_seq (ss_ret se_bl) ss_nil) ss_nil) (ss_seq (ss_ret (se_op (se_var (gS (gS (gS (gS (gS (gS (gS (gS g0))))))))) (se_fz (se_lcF (si_r1 (sa_cons (se_cbR (sra_cons (sr_var (gS (gS (gS (gS (gS (gS (gS g0)))))))) sra_nil) (sc_lenL (K := K)) scI) sa_nil)) (wp_cons (nS (nS (nS (nS (nS (nS (nS (nS (nS (nU n0)))))))))) wp_nil) (sg_name (pS (pS (pS (pS (pS (pS (pS (pS (pS (pU p0U))))))))))) (st_test (se_op (se_ixB (K := K) (sb_var (gS (gS (gS (gS (gS (gS (gS g0)))))))) (se_var (gS (gS (gS (gS (gS (gS (gS (gS (gS (gU g0)))))))))))) (se_var (gS (gS (gS (gS (gS g0)))))) (s2_C0 (f := fun i j => decide (i ≤ j))))) (se_tup (stC (se_var (gS (gS (gS (gS (gS (gS (gS (gS (gS (gU g0))))))))))) (st1 (se_ixB (K := K) (sb_var (gS (gS (gS (gS (gS (gS (gS g0)))))))) (se_var (gS (gS (gS (gS (gS (gS (gS (gS (gS (gU g0)))))))))))))) (tz tz1)))) ((s2_eqD (K := K) (qL (qT (qC qI (q1 qI)))))))) ss_nil)))))))))))))))), by exact rfl⟩
end
end Lw
namespace Lw
open PySem PySem.Spec PyProof.Rows L2 Fw Mi
local macro_rules | `(tactic| walk_at "m") => `(tactic| simp only [pidx_one, pinS_one, pninS_one, W_some, W_none, W_ob, W_bind, W_pck, W_rb, W_fin, W_finN, W_T, W_F, W_Tr, W_Fa, Rw_nxt, Rw_ret, Rw_cnt, Rf_ret, Rf_nxt, RfN_ret, RfN_nxt, W_finU, RfU_nxt, W_finZ, W_finZN, RfZ_nxt, lcM_id, W_obx, Xf_ok, Xf_er, W_rbx, Xr_ok, Xr_er, W_okx, W_finNX, RfNX_ret, RfNX_nxt, W_finUX, RfUX_nxt, RfUX_er, W_trx, Xt_ok, Xt_er, decide_true, decide_false, Bool.not_true, Bool.not_false])
theorem law_true (ns : List Int) (h : ns.length ≤ 63) : m_law ns = some true := by
  have hz : ∀ k : Nat, k ≤ 4000 → k ≤ sz := fun k h => by unfold sz; omega
  refine W.eq ?_
  unfold m_law
  walk_at "m"
  refine w_cell (by decide) fun c0 => ?_
  refine w_cell (by decide) fun c1 => ⟨by omega, ?_⟩
  refine w_text (by omega) fun tx ht htl => ?_
  refine w_cell (by decide) fun c4 => ⟨by omega, ?_⟩
  refine w_cell (by decide) fun c4' => ⟨by omega, by omega, ?_⟩
  refine W.mono (Q := fun r => ∃ s : Int, r = Res.nxt (ns, c0, tx, s, ()) ∧ 1 ≤ s ∧ s ≤ 100) ?_ ?_
  · refine W_ifD (fun h => ?_) (fun h => ?_)
    · walk_at "m"
      exact ⟨_, rfl, by omega, by omega⟩
    · walk_at "m"
      exact ⟨_, rfl, by omega, by omega⟩
  rintro _ ⟨s, rfl, hs1, hs2⟩
  rw [Rw_nxt]
  walk_at "m"
  refine w_cell (by decide) fun c2 => ?_
  refine w_text (by omega) fun rd0 hr hrl => ?_
  refine w_cell (by decide) fun c5 => ⟨by omega, ?_⟩
  refine W.mono (Q := fun b => b = true → 0 < tx.length) ?_ fun b hb => ?_
  · refine W_ifD (fun h => ?_) (fun h => ?_)
    · walk_at "m"
      exact ⟨hz _ (by omega), fun z => by have := of_decide_eq_true z; omega⟩
    · walk_at "m"
      exact fun z => nomatch z
  refine W.mono (Q := fun r => ∃ rd, r = Res.nxt (ns, c0, tx, s, rd, ()) ∧ Ltr rd ∧ 1 ≤ rd.length ∧ rd.length ≤ 103) ?_ ?_
  · refine W_ifB (fun h => ?_) (fun h => ?_)
    · have := hb h
      walk_at "m"
      refine w_cell (by decide) fun c2' => ?_
      refine w_read htl (by omega) (by omega) fun rd a1 a2 a3 => ⟨rd, rfl, a1, a2, by omega⟩
    · walk_at "m"
      exact ⟨rd0, rfl, hrl, by omega, by omega⟩
  rintro _ ⟨rd, rfl, hrl, hr1, hr2⟩
  rw [Rw_nxt]
  walk_at "m"
  refine w_cell (by decide) fun c3 => ⟨by omega, ?_⟩
  refine w_cell (by decide) fun c3' => ⟨by omega, by omega, ?_⟩
  refine W.mono (Q := fun r => ∃ k : Int, r = Res.nxt (ns, c0, tx, s, rd, k, ())) ?_ ?_
  · refine W_ifD (fun h => ?_) (fun h => ?_)
    · walk_at "m"
      refine w_cell (by decide) fun c3'' => ⟨by omega, by omega, ?_⟩
      exact ⟨_, rfl⟩
    · walk_at "m"
      exact ⟨_, rfl⟩
  rintro _ ⟨k, rfl⟩
  rw [Rw_nxt]
  walk_at "m"
  have hd1 := m_distance_eq (rd := rd) (tx := tx) (by omega) (by omega)
  have hd2 := m_distance_eq (rd := tx) (tx := rd) (by omega) (by omega)
  have hd3 := m_lawdistance_eq (rd := rd) (tx := tx) (by omega) (by omega)
  have hd4 := m_distance_eq (rd := []) (tx := tx) (Nat.zero_le _) (by omega)
  have hd5 := m_distance_eq (rd := rd) (tx := []) (by omega) (Nat.zero_le _)
  rw [hd1]
  walk_at "m"
  rw [m_integer_eq]
  walk_at "m"
  rw [hd3]
  walk_at "m"
  rw [hd2, ← My.col_swap]
  walk_at "m"
  rw [hd4]
  walk_at "m"
  rw [show My.col true [] tx tx.length ([] : List Nat).length = (tx.length : Int) from My.col_top [] tx tx.length]
  refine ⟨hz _ (by omega), ?_⟩
  walk_at "m"
  rw [hd5]
  walk_at "m"
  refine ⟨hz _ (by omega), ?_⟩
  rw [show My.col true rd [] ([] : List Nat).length rd.length = (rd.length : Int) from rfl]
  walk_at "m"
  rw [m_lawends_eq (by omega) (by omega)]
  walk_at "m"
  rw [m_ends_eq ⟨by omega, by omega⟩ (by omega)]
  walk_at "m"
  have hlen : (((List.range (tx.length + 1)).map fun j : Nat => ((j : Int), My.col false rd tx j rd.length)).filter fun z => decide (z.2 ≤ k)).length ≤ tx.length + 1 := by
    have := List.length_filter_le (fun z : Int × Int => decide (z.2 ≤ k)) ((List.range (tx.length + 1)).map fun j : Nat => ((j : Int), My.col false rd tx j rd.length))
    rw [List.length_map, List.length_range] at this
    exact this
  have hF : ((prange ((tx.length + 1 : Nat) : Int)).filter fun c => decide (My.col false rd tx c.toNat rd.length ≤ k)).map (fun c => (c, My.col false rd tx c.toNat rd.length)) = ((List.range (tx.length + 1)).map fun j : Nat => ((j : Int), My.col false rd tx j rd.length)).filter fun z => decide (z.2 ≤ k) := by
    unfold prange
    rw [Int.toNat_natCast, List.filter_map, List.filter_map, List.map_map]
    rfl
  generalize ((List.range (tx.length + 1)).map fun j : Nat => ((j : Int), My.col false rd tx j rd.length)).filter (fun z => decide (z.2 ≤ k)) = F at hlen hF
  refine W_lcMap (g := fun _ => true) (fun _ _ => rfl) ⟨hz _ (by rw [List.length_map]; omega), ?_⟩
  rw [show ((F.map fun _ => true).all id) = true by simp]
  walk_at "m"
  rw [cl_len]
  refine ⟨by omega, ?_⟩
  refine W_of (lcF_map (q := fun c => decide (My.col false rd tx c.toNat rd.length ≤ k)) (g := fun c => (c, My.col false rd tx c.toNat rd.length)) (fun c hc => ?_) (fun c hc _ => ?_)) ?_
  · obtain ⟨i, hi⟩ := List.mem_iff_getElem?.mp hc
    obtain ⟨rfl, hi2⟩ := prange_get hi
    rw [cl_pat (show i < tx.length + 1 by omega)]
    rfl
  · obtain ⟨i, hi⟩ := List.mem_iff_getElem?.mp hc
    obtain ⟨rfl, hi2⟩ := prange_get hi
    rw [cl_pat (show i < tx.length + 1 by omega)]
    rfl
  · rw [hF]
    exact ⟨hz _ (by omega), decide_eq_true rfl⟩

end Lw
namespace Lw
open PySem PySem.Spec PyProof.Rows L2 Fw Mi

theorem law_start {K : PySem.W.Frag} {H : Hp} {a : Addr} {ns : List Int} (hS : SqL K H a (ns.map V.int)) (hl : ns.length ≤ 63) : sp_law K [.ref a] H (fun v _ => v = .bl true) fun _ _ _ => False :=
  ⟨H, (ns, ()), true, Same.refl _, ⟨_, _, rfl, ⟨a, _, rfl, hS, Paired.mk (A := jI.r H) (f := V.int) (fun _ => rfl) ns⟩, rfl⟩, law_true ns hl, fun _ _ _ _ _ r => r.2⟩
/-! ### the head -/
def dd_letter_masks : He.DefD := ⟨("letter_masks", none), "letter_masks", "letter_masks", defArgs s_letter_masks, defBody s_letter_masks, defScope s_letter_masks, [], []⟩
def dd_Column___init : He.DefD := ⟨("Column", some "__init__"), "__init__", "Column.__init__", defArgs s_Column___init, defBody s_Column___init, defScope s_Column___init, [], []⟩
def dd_Column_read_letter : He.DefD := ⟨("Column", some "read_letter"), "read_letter", "Column.read_letter", defArgs s_Column_read_letter, defBody s_Column_read_letter, defScope s_Column_read_letter, [], []⟩
def dd_distance : He.DefD := ⟨("distance", none), "distance", "distance", defArgs s_distance, defBody s_distance, defScope s_distance, [], []⟩
def dd_ends : He.DefD := ⟨("ends", none), "ends", "ends", defArgs s_ends, defBody s_ends, defScope s_ends, [], []⟩
def dd_law_cell : He.DefD := ⟨("_law_cell", none), "_law_cell", "_law_cell", defArgs s_law_cell, defBody s_law_cell, defScope s_law_cell, [], []⟩
def dd_law_row : He.DefD := ⟨("_law_row", none), "_law_row", "_law_row", defArgs s_law_row, defBody s_law_row, defScope s_law_row, [], []⟩
def dd_law_integer : He.DefD := ⟨("_law_integer", none), "_law_integer", "_law_integer", defArgs s_law_integer, defBody s_law_integer, defScope s_law_integer, [], []⟩
def dd_law_text : He.DefD := ⟨("_law_text", none), "_law_text", "_law_text", defArgs s_law_text, defBody s_law_text, defScope s_law_text, [], []⟩
def dd_law_turned : He.DefD := ⟨("_law_turned", none), "_law_turned", "_law_turned", defArgs s_law_turned, defBody s_law_turned, defScope s_law_turned, [], []⟩
def dd_law_read : He.DefD := ⟨("_law_read", none), "_law_read", "_law_read", defArgs s_law_read, defBody s_law_read, defScope s_law_read, [], []⟩
def dd_law_agree : He.DefD := ⟨("_law_agree", none), "_law_agree", "_law_agree", defArgs s_law_agree, defBody s_law_agree, defScope s_law_agree, [], []⟩
def dd_law_ends : He.DefD := ⟨("_law_ends", none), "_law_ends", "_law_ends", defArgs s_law_ends, defBody s_law_ends, defScope s_law_ends, [], []⟩
def dd_law_distance : He.DefD := ⟨("_law_distance", none), "_law_distance", "_law_distance", defArgs s_law_distance, defBody s_law_distance, defScope s_law_distance, [], []⟩
def dd_law : He.DefD := ⟨("law", none), "law", "law", defArgs s_law, defBody s_law, defScope s_law, [], []⟩
def fn : List He.DefD := [dd_letter_masks, dd_Column___init, dd_Column_read_letter, dd_distance, dd_ends, dd_law_cell, dd_law_row, dd_law_integer, dd_law_text, dd_law_turned, dd_law_read, dd_law_agree, dd_law_ends, dd_law_distance, dd_law]
def fa : List He.Fa := [.glo "letter_masks", .meth "Column" "__init__", .meth "Column" "read_letter", .glo "distance", .glo "ends", .glo "_law_cell", .glo "_law_row", .glo "_law_integer", .glo "_law_text", .glo "_law_turned", .glo "_law_read", .glo "_law_agree", .glo "_law_ends", .glo "_law_distance", .glo "law", .free "enumerate", .free "len", .free "int", .free "abs", .free "range", .free "isinstance", .free "bool", .free "min", .free "list", .free "all", .free "tuple", .str "UNKNOWN" (S [78]), .glo "Column", .cls "Column", .noat "Column" "score", .noat "Column" "less", .noat "Column" "more", .noat "Column" "first", .noat "Column" "highest", .noat "Column" "full", .noat "Column" "masks", .mkr "Column"]
abbrev R : PySem.W.OpenRow := PySem.W.OpenLaw.row PySem.Challenge.rw_homereads_k23_distances_and_ends
abbrev hk : PySem.W.Hook := He.hookD 4 fa fn
def ob (s : PySem.W.SharedT) : He.AlD := He.obsDG 4 fa fn (HandSHeadRun.getT s)
theorem ob_eq (s : PySem.W.SharedT) : ob s = hk.obs s.abs := He.obsDG_eq (HandSHeadRun.getT_eq s)
def names : List PySem.Str := (["UNKNOWN", "letter_masks", "Column", "distance", "ends", "_law_cell", "_law_row", "_law_integer", "_law_text", "_law_turned", "_law_read", "_law_references", "_law_agree", "_law_ends", "_law_hits", "_law_distance"] : List PySem.Str)
theorem run (w : World) : HandSHeadRun.RunEq R (PySem.W.view R.prog [18]) hk ob 4000 names w := by
  refine PySem.W.byRow2 "special-get-raises" (P := fun w => HandSHeadRun.RunEq R (PySem.W.view R.prog [18]) hk ob 4000 names w) (fun w => ?_) (fun w => ?_) w
  · intro os
    kernel_rfl
  · intro os
    kernel_rfl
theorem tx {w : World} {K : PySem.W.Frag} {h : Heap} {mg : Str → Option Value} (X : K.In h) (G : h.Ns mainGlobals mg) (c : He.SaysD fa fn K) : Tx w K mg where
  g_letter_masks := He.glo_ok X G (c.fact 0 (f := .glo "letter_masks") rfl)
  m_Column___init := He.meth_ok (c.fact 1 (f := .meth "Column" "__init__") rfl)
  m_Column_read_letter := He.meth_ok (c.fact 2 (f := .meth "Column" "read_letter") rfl)
  g_distance := He.glo_ok X G (c.fact 3 (f := .glo "distance") rfl)
  g_ends := He.glo_ok X G (c.fact 4 (f := .glo "ends") rfl)
  g_law_cell := He.glo_ok X G (c.fact 5 (f := .glo "_law_cell") rfl)
  g_law_row := He.glo_ok X G (c.fact 6 (f := .glo "_law_row") rfl)
  g_law_integer := He.glo_ok X G (c.fact 7 (f := .glo "_law_integer") rfl)
  g_law_text := He.glo_ok X G (c.fact 8 (f := .glo "_law_text") rfl)
  g_law_turned := He.glo_ok X G (c.fact 9 (f := .glo "_law_turned") rfl)
  g_law_read := He.glo_ok X G (c.fact 10 (f := .glo "_law_read") rfl)
  g_law_agree := He.glo_ok X G (c.fact 11 (f := .glo "_law_agree") rfl)
  g_law_ends := He.glo_ok X G (c.fact 12 (f := .glo "_law_ends") rfl)
  g_law_distance := He.glo_ok X G (c.fact 13 (f := .glo "_law_distance") rfl)
  g_law := He.glo_ok X G (c.fact 14 (f := .glo "law") rfl)
  z_enumerate := He.free_ok X G (c.fact 15 (f := .free "enumerate") rfl)
  z_len := He.free_ok X G (c.fact 16 (f := .free "len") rfl)
  z_int := He.free_ok X G (c.fact 17 (f := .free "int") rfl)
  z_abs := He.free_ok X G (c.fact 18 (f := .free "abs") rfl)
  z_range := He.free_ok X G (c.fact 19 (f := .free "range") rfl)
  z_isinstance := He.free_ok X G (c.fact 20 (f := .free "isinstance") rfl)
  z_bool := He.free_ok X G (c.fact 21 (f := .free "bool") rfl)
  z_min := He.free_ok X G (c.fact 22 (f := .free "min") rfl)
  z_list := He.free_ok X G (c.fact 23 (f := .free "list") rfl)
  z_all := He.free_ok X G (c.fact 24 (f := .free "all") rfl)
  z_tuple := He.free_ok X G (c.fact 25 (f := .free "tuple") rfl)
  k_UNKNOWN := He.str_ok X G (c.fact 26 (f := .str "UNKNOWN" (S [78])) rfl)
  g_Column := He.glo_ok X G (c.fact 27 (f := .glo "Column") rfl)
  c_Column := He.cls_ok (c.fact 28 (f := .cls "Column") rfl)
  n_Column_score := He.noat_ok (c.fact 29 (f := .noat "Column" "score") rfl)
  n_Column_less := He.noat_ok (c.fact 30 (f := .noat "Column" "less") rfl)
  n_Column_more := He.noat_ok (c.fact 31 (f := .noat "Column" "more") rfl)
  n_Column_first := He.noat_ok (c.fact 32 (f := .noat "Column" "first") rfl)
  n_Column_highest := He.noat_ok (c.fact 33 (f := .noat "Column" "highest") rfl)
  n_Column_full := He.noat_ok (c.fact 34 (f := .noat "Column" "full") rfl)
  n_Column_masks := He.noat_ok (c.fact 35 (f := .noat "Column" "masks") rfl)
  mk_Column := He.mkr_ok (c.fact 36 (f := .mkr "Column") rfl)
  d_letter_masks := c.def_ 0 (d := dd_letter_masks) rfl
  d_Column___init := c.def_ 1 (d := dd_Column___init) rfl
  d_Column_read_letter := c.def_ 2 (d := dd_Column_read_letter) rfl
  d_distance := c.def_ 3 (d := dd_distance) rfl
  d_ends := c.def_ 4 (d := dd_ends) rfl
  d_law_cell := c.def_ 5 (d := dd_law_cell) rfl
  d_law_row := c.def_ 6 (d := dd_law_row) rfl
  d_law_integer := c.def_ 7 (d := dd_law_integer) rfl
  d_law_text := c.def_ 8 (d := dd_law_text) rfl
  d_law_turned := c.def_ 9 (d := dd_law_turned) rfl
  d_law_read := c.def_ 10 (d := dd_law_read) rfl
  d_law_agree := c.def_ 11 (d := dd_law_agree) rfl
  d_law_ends := c.def_ 12 (d := dd_law_ends) rfl
  d_law_distance := c.def_ 13 (d := dd_law_distance) rfl
  d_law := c.def_ 14 (d := dd_law) rfl
theorem facts {P : Program} {w : World} {K : PySem.W.Frag} {h : Heap} {mg : Str → Option Value} {f : Addr} (X : K.In h) (G : h.Ns mainGlobals mg) (hfa : mg ("law" : Str) = some (.ref f)) (c : He.SaysD fa fn K) :
    ∃ fd : FuncData, (∀ (s : Shared) (v : Value), BindsTo s fd ⟨[v], []⟩ [("_law_script", v)]) ∧ ∀ base : Heap, K.In base → base.Ns mainGlobals mg → FnOk P w K mg base CX0 5 f fd ["_law_script"] (sp_law K) := by
  have T := tx (w := w) X G c
  have e := hfa.symm.trans T.g_law
  cases e
  obtain ⟨fd, F⟩ := T.d_law
  have lF := lk_of F
  have b := FunD.bindsA (ps := ["_law_script"]) F fun _ _ _ _ _ _ us hl => match us, hl with | [_], _ => rfl
  refine ⟨fd, fun s v => b s [v] rfl, fun base _ _ => ?_⟩
  obtain ⟨fd2, G2, _, _, l2⟩ := ok_law (P := P) (w := w) (base := base) T
  rw [lk_same lF l2]
  exact G2
end Lw
open PySem PySem.W PySem.Calls PyProof.Rows
set_option maxHeartbeats 0 in
theorem PySem.Challenge.cw_homereads_k23_distances_and_ends_holds : PySem.Challenge.rw_homereads_k23_distances_and_ends.Holds := by
  w_on; o_law
  refine HandSHeadRun.head_any (r := OpenLaw.row PySem.Challenge.rw_homereads_k23_distances_and_ends) (q := view (OpenLaw.row PySem.Challenge.rw_homereads_k23_distances_and_ends).prog [18]) (H := Lw.hk) (ob := Lw.ob) (M := 4000) (loose := Lw.names) (d := HandSHeadRun.topDef (OpenLaw.row PySem.Challenge.rw_homereads_k23_distances_and_ends).prog 18) (kwd := []) Lw.ob_eq
    (by kernel_rfl) (fun s => by kernel_rfl) Lw.run (by kernel_rfl) (by kernel_rfl) (by kernel_rfl) (by rfl) (by first | assumption | decide +kernel) (by decide +kernel) ⟨rfl, rfl, rfl, rfl, rfl, by decide +kernel⟩ ?hw ?hc
  case hw => w_witness2
  case hc =>
    refine L2.walk_ofE (l := PySem.Challenge.rw_homereads_k23_distances_and_ends) (n := 63) (k := 5) (x := "_law_script") (CX := L2.CX0) rfl (by decide) (by kernel_rfl) ⟨rfl, by decide, by decide⟩ ?F (fun _ _ _ _ z => z)
    intro w mg fa h Y G hmg0
    obtain ⟨K, KX, c⟩ := Y
    have hmg : mg ("law" : PySem.Str) = some (.ref fa) := by
      have e : (HandSHeadRun.topDef (OpenLaw.row PySem.Challenge.rw_homereads_k23_distances_and_ends).prog 18).name = ("law" : PySem.Str) := by kernel_rfl
      rw [← e]
      exact hmg0
    obtain ⟨fd, hb, hF⟩ := Lw.facts (P := (PySem.Challenge.rw_homereads_k23_distances_and_ends).prog) (w := w) KX G hmg c
    exact ⟨K, fd, Lw.sp_law K, KX, hb, fun H a ns hl _ hS => Lw.law_start hS hl, hF⟩
